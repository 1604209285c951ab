import PyProof.Rows.All
import HandS.ForMost
import HandS.Zip
import KE.DataIsa
import KE.DataEq
import KE.SortData
import PyProof.ReprRoads
import HandS.IsInst
import HandS.TupAny
import HandS.Star
import HandS.Walk
import HandS.Conv
import KE.DataCmp
import KE.DataFind
import KE.DataMinMax
import HandS.Style
import HandS.Ends
import KE.DatumOrd
import PyProof.Rows.RegFStrParts
import PySem.Challenge.RW_standsets_k01_debates_recognized
set_option Elab.async false
set_option linter.all false
set_option maxRecDepth 100000
section
namespace DL
open PySem PySem.Spec L2
open PyProof.Rows hiding St

/-! ### values and heaps of the layer -/
/-- a value: plain data (never changed), or another value (an object that may change, a def, a class, ..) -/
inductive W where
  | d (x : PyData)
  | v (x : V)
  /-- a tuple just made by zip, enumerate, ..: it is unpacked at once -/
  | p (xs : List PyData)
/-- an object that may change -/
inductive MO where
  | lst (xs : List W)
  | ins (C dx : Addr) (fs : List (Str × W))
abbrev MM := Addr → Option MO
def mset (m : MM) (a : Addr) (o : MO) : MM := fun b => if b = a then some o else m b
theorem mset_same {m : MM} {a : Addr} {o : MO} : mset m a o a = some o := if_pos rfl
theorem mset_ne {m : MM} {a b : Addr} {o : MO} (h : b ≠ a) : mset m a o b = m b := if_neg h
theorem mset_mset {m : MM} {a : Addr} {o u : MO} : mset (mset m a o) a u = mset m a u := by
  funext b; unfold mset; split <;> rfl
def Sub (m m' : MM) : Prop := ∀ a o, m a = some o → m' a = some o
theorem Sub.refl (m : MM) : Sub m m := fun _ _ h => h
theorem Sub.trans {a b c : MM} (h : Sub a b) (k : Sub b c) : Sub a c := fun x o e => k x o (h x o e)
theorem Sub.new {m : MM} {a : Addr} {o : MO} (h : m a = none) : Sub m (mset m a o) := fun b u e => by
  have : b ≠ a := fun z => by subst z; rw [h] at e; cases e
  rw [mset_ne this]; exact e
theorem Sub.mset {m m' : MM} {a : Addr} {o : MO} (h : Sub m m') : Sub (mset m a o) (DL.mset m' a o) := fun b u e => by
  by_cases hb : b = a
  · subst hb; rw [mset_same] at e ⊢; exact e
  · rw [mset_ne hb] at e ⊢; exact h _ _ e

/-- a list that is never changed any more -/
def FzL (K : PySem.W.Frag) (H : Hp) (a : Addr) (xs : List V) : Prop :=
  (∃ o, H a = some (.frz o (.lst xs))) ∨
    ∃ (its : List Value) (n : Nat), K.lookup a = some { cls := .type "list", data := .seq its.toArray n } ∧ its.length ≤ sizeLine ∧ Vals xs its
theorem FzL.sq {K : PySem.W.Frag} {H : Hp} {a : Addr} {xs : List V} (h : FzL K H a xs) : SqL K H a xs := by
  rcases h with ⟨o, h⟩ | ⟨its, n, h1, h2, h3⟩
  · exact .inl (.inr ⟨o, h⟩)
  · exact .inr ⟨_, its.toArray, n, h1, rfl, rfl, rfl, by simpa using h2, by simpa using h3⟩
/-- a list that is read, changed later or not -/
def LsR (K : PySem.W.Frag) (H : Hp) (a : Addr) (xs : List V) : Prop := H a = some (.lst xs) ∨ FzL K H a xs
theorem LsR.sq {K : PySem.W.Frag} {H : Hp} {a : Addr} {xs : List V} (h : LsR K H a xs) : SqL K H a xs := h.elim SqL.of FzL.sq
/-- a tuple with no attributes of its own -/
def FzT (K : PySem.W.Frag) (H : Hp) (a : Addr) (xs : List V) : Prop :=
  (∃ o, H a = some (.frz o (.tup xs)) ∧ o.dict = none) ∨
    ∃ (o : Obj) (its : Array Value) (n : Nat), K.lookup a = some o ∧ o.cls = .type "tuple" ∧ o.dict = none ∧ o.data = .seq its n ∧ its.size ≤ sizeLine ∧ Vals xs its.toList
theorem FzT.sq {K : PySem.W.Frag} {H : Hp} {a : Addr} {xs : List V} (h : FzT K H a xs) : SqT K H a xs := by
  rcases h with ⟨o, h, _⟩ | ⟨o, its, n, h1, h2, _, h3, h4, h5⟩
  · exact .inl (.inr ⟨o, h⟩)
  · exact .inr ⟨o, its, n, h1, h2, h3, h4, h5⟩
def kD : Key → PyData
  | .inl i => .int i
  | .inr x => .str x
mutual
inductive Fz (K : PySem.W.Frag) (H : Hp) : V → PyData → Prop
  | non : Fz K H .non .none
  | bl (b : Bool) : Fz K H (.bl b) (.bool b)
  | int (i : Int) : Fz K H (.int i) (.int i)
  | str (x : Str) : Fz K H (.str x) (.str x)
  | lst {a : Addr} {xs : List V} {ds : List PyData} : FzL K H a xs → xs.length ≤ sizeLine → FzA K H xs ds → Fz K H (.ref a) (.list ds)
  | tup {a : Addr} {xs : List V} {ds : List PyData} : FzT K H a xs → xs.length ≤ sizeLine → FzA K H xs ds → Fz K H (.ref a) (.tuple ds)
  | dct {a : Addr} {o : Obj} {ks : List Key} {vs : List V} {ds : List PyData} : H a = some (.frz o (.dK (ks.zip vs))) → ks.length = vs.length → FzA K H vs ds → Fz K H (.ref a) (.dict ((ks.map kD).zip ds))
inductive FzA (K : PySem.W.Frag) (H : Hp) : List V → List PyData → Prop
  | nil : FzA K H [] []
  | cons {v : V} {vs : List V} {d : PyData} {ds : List PyData} : Fz K H v d → FzA K H vs ds → FzA K H (v :: vs) (d :: ds)
end
/-- what is never changed stays -/
def Ext (H H' : Hp) : Prop := (∀ a xs, H a = some (.tup xs) → H' a = some (.tup xs)) ∧ ∀ a o u, H a = some (.frz o u) → H' a = some (.frz o u)
theorem Ext.refl (H : Hp) : Ext H H := ⟨fun _ _ h => h, fun _ _ _ h => h⟩
theorem Ext.trans {A B C : Hp} (h : Ext A B) (k : Ext B C) : Ext A C := ⟨fun a xs e => k.1 a xs (h.1 a xs e), fun a o u e => k.2 a o u (h.2 a o u e)⟩
theorem Ext.new {H : Hp} {a : Addr} {o : HO} (h : H a = none) : Ext H (upd H a o) :=
  ⟨fun b xs e => by rw [upd_ne (ne_of_none e h)]; exact e, fun b o u e => by rw [upd_ne (ne_of_none e h)]; exact e⟩
theorem Ext.lst {H : Hp} {a : Addr} {o : HO} {xs : List V} (h : H a = some (.lst xs)) : Ext H (upd H a o) :=
  ⟨fun b ys e => by rw [upd_ne (ne_of e h (by intro z; cases z))]; exact e, fun b o u e => by rw [upd_ne (ne_of e h (by intro z; cases z))]; exact e⟩
theorem Ext.sqt {K : PySem.W.Frag} {H H' : Hp} {a : Addr} {xs : List V} (h : Ext H H') (q : SqT K H a xs) : SqT K H' a xs := by
  rcases q with (q | ⟨o, q⟩) | q
  · exact .inl (.inl (h.1 _ _ q))
  · exact .inl (.inr ⟨o, h.2 _ _ _ q⟩)
  · exact .inr q
theorem Ext.fzl {K : PySem.W.Frag} {H H' : Hp} {a : Addr} {xs : List V} (h : Ext H H') (q : FzL K H a xs) : FzL K H' a xs := by
  rcases q with ⟨o, q⟩ | q
  · exact .inl ⟨o, h.2 _ _ _ q⟩
  · exact .inr q
theorem Ext.fzt {K : PySem.W.Frag} {H H' : Hp} {a : Addr} {xs : List V} (h : Ext H H') (q : FzT K H a xs) : FzT K H' a xs := by
  rcases q with ⟨o, q, d⟩ | q
  · exact .inl ⟨o, h.2 _ _ _ q, d⟩
  · exact .inr q
mutual
theorem Fz.ext {K : PySem.W.Frag} {H H' : Hp} (x : Ext H H') : ∀ {v : V} {d : PyData}, Fz K H v d → Fz K H' v d
  | _, _, .non => .non
  | _, _, .bl b => .bl b
  | _, _, .int i => .int i
  | _, _, .str y => .str y
  | _, _, .lst h z a => .lst (x.fzl h) z (FzA.ext x a)
  | _, _, .tup h z a => .tup (x.fzt h) z (FzA.ext x a)
  | _, _, .dct h z a => .dct (x.2 _ _ _ h) z (FzA.ext x a)
theorem FzA.ext {K : PySem.W.Frag} {H H' : Hp} (x : Ext H H') : ∀ {vs : List V} {ds : List PyData}, FzA K H vs ds → FzA K H' vs ds
  | _, _, .nil => .nil
  | _, _, .cons h t => .cons (Fz.ext x h) (FzA.ext x t)
end
theorem FzA.length {K : PySem.W.Frag} {H : Hp} : ∀ {vs : List V} {ds : List PyData}, FzA K H vs ds → vs.length = ds.length
  | _, _, .nil => rfl
  | _, _, .cons _ t => congrArg Nat.succ (FzA.length t)
theorem FzA.get {K : PySem.W.Frag} {H : Hp} : ∀ {vs : List V} {ds : List PyData} {i : Nat} {d : PyData}, FzA K H vs ds → ds[i]? = some d → ∃ v, vs[i]? = some v ∧ Fz K H v d
  | _, _, i, _, .nil, e => by simp at e
  | _, _, 0, _, .cons h _, e => by simp at e; subst e; exact ⟨_, rfl, h⟩
  | _, _, i + 1, _, .cons _ t, e => by
    obtain ⟨v, h1, h2⟩ := FzA.get (i := i) t (by simpa using e)
    exact ⟨v, by simpa using h1, h2⟩
theorem FzA.getV {K : PySem.W.Frag} {H : Hp} : ∀ {vs : List V} {ds : List PyData} {i : Nat} {v : V}, FzA K H vs ds → vs[i]? = some v → ∃ d, ds[i]? = some d ∧ Fz K H v d
  | _, _, i, _, .nil, e => by simp at e
  | _, _, 0, _, .cons h _, e => by simp at e; subst e; exact ⟨_, rfl, h⟩
  | _, _, i + 1, _, .cons _ t, e => by
    obtain ⟨v, h1, h2⟩ := FzA.getV (i := i) t (by simpa using e)
    exact ⟨v, by simpa using h1, h2⟩
theorem FzA.append {K : PySem.W.Frag} {H : Hp} : ∀ {vs : List V} {ds : List PyData} {us : List V} {es : List PyData}, FzA K H vs ds → FzA K H us es → FzA K H (vs ++ us) (ds ++ es)
  | _, _, _, _, .nil, s => s
  | _, _, _, _, .cons h t, s => .cons h (FzA.append t s)
theorem FzA.take {K : PySem.W.Frag} {H : Hp} : ∀ {vs : List V} {ds : List PyData} (n : Nat), FzA K H vs ds → FzA K H (vs.take n) (ds.take n)
  | _, _, 0, _ => by simp; exact .nil
  | _, _, n + 1, .nil => .nil
  | _, _, n + 1, .cons h t => .cons h (FzA.take n t)
theorem FzA.drop {K : PySem.W.Frag} {H : Hp} : ∀ {vs : List V} {ds : List PyData} (n : Nat), FzA K H vs ds → FzA K H (vs.drop n) (ds.drop n)
  | _, _, 0, h => h
  | _, _, n + 1, .nil => .nil
  | _, _, n + 1, .cons h t => FzA.drop n t
theorem FzA.bls {K : PySem.W.Frag} {H : Hp} : ∀ {vs : List V} {bs : List Bool}, FzA K H vs (bs.map .bool) → vs = bs.map V.bl
  | _, [], .nil => rfl
  | _, b :: bs, .cons h t => by cases h; rw [FzA.bls t]; rfl
theorem FzA.ints {K : PySem.W.Frag} {H : Hp} : ∀ {vs : List V} {bs : List Int}, FzA K H vs (bs.map .int) → vs = bs.map V.int
  | _, [], .nil => rfl
  | _, b :: bs, .cons h t => by cases h; rw [FzA.ints t]; rfl
theorem FzA.of_ints {K : PySem.W.Frag} {H : Hp} : ∀ {bs : List Int}, FzA K H (bs.map V.int) (bs.map .int)
  | [] => .nil
  | b :: bs => .cons (.int b) FzA.of_ints

/-! ### data read off a heap -/
mutual
def noLst : PyData → Bool
  | .none | .bool _ | .int _ | .str _ => true
  | .list _ => false
  | .tuple xs => noLstA xs
  | .dict kvs => noLstK kvs
def noLstA : List PyData → Bool
  | [] => true
  | x :: xs => noLst x && noLstA xs
def noLstK : List (PyData × PyData) → Bool
  | [] => true
  | (_, v) :: xs => noLst v && noLstK xs
end
theorem noLstK_zip : ∀ {ks : List PyData} {ds : List PyData}, ks.length = ds.length → noLstK (ks.zip ds) = true → noLstA ds = true
  | [], [], _, _ => by simp [noLstA]
  | k :: ks, d :: ds, e, h => by
    simp only [List.zip_cons_cons, noLstK, Bool.and_eq_true] at h
    simp only [noLstA, Bool.and_eq_true]
    exact ⟨h.1, noLstK_zip (by simpa using e) h.2⟩
section
variable {X : Cx} {pins : List (Addr × Obj)} {σ : St} {H : Hp} {s : Shared}
mutual
theorem Fz.reads0 (I : Inv X pins σ H s) : ∀ (d : PyData) (v : V) (u : Value), Fz X.K H v d → RelV v u → d.hasDict = false → ∃ as, Reads s.heap u d as
  | .none, _, _, h, r, _ => by
    cases h
    cases r
    exact ⟨_, Reads.none⟩
  | .bool b, _, _, h, r, _ => by
    cases h
    cases r
    exact ⟨_, Reads.bool b⟩
  | .int i, _, _, h, r, _ => by
    cases h
    obtain ⟨t, rfl⟩ := r
    exact ⟨_, Reads.int i t⟩
  | .str x, _, _, h, r, _ => by
    cases h
    obtain ⟨t, rfl⟩ := r
    exact ⟨_, Reads.str x t⟩
  | .list ds, _, _, h, r, hd => by
    cases h with
    | lst hs _ ha =>
      cases r
      obtain ⟨its, rv, ⟨o, n, ho, hc, _, hdt⟩, _⟩ := I.list hs.sq
      obtain ⟨as, hr⟩ := Fz.readsA0 I ds _ its ha rv (by simpa [PyData.hasDict] using hd)
      exact ⟨_, Reads.list ho hc hdt hr⟩
  | .tuple ds, _, _, h, r, hd => by
    cases h with
    | tup hs _ ha =>
      cases r
      obtain ⟨its, rv, ⟨o, ho, hc, n, hdt⟩, _⟩ := I.tuple hs.sq
      obtain ⟨as, hr⟩ := Fz.readsA0 I ds _ its ha rv (by simpa [PyData.hasDict] using hd)
      exact ⟨_, Reads.tuple ho hc hdt hr⟩
  | .dict _, _, _, h, _, hd => by simp [PyData.hasDict] at hd
theorem Fz.readsA0 (I : Inv X pins σ H s) : ∀ (ds : List PyData) (vs : List V) (us : List Value), FzA X.K H vs ds → Vals vs us → PyData.hasDictAll ds = false → ∃ as, ReadsAll s.heap us ds as
  | [], _, _, h, r, _ => by
    cases h
    cases r
    exact ⟨_, ReadsAll.nil⟩
  | d :: ds, _, _, h, r, hd => by
    cases h with
    | cons h1 h2 =>
      cases r with
      | cons r1 r2 =>
        simp only [PyData.hasDictAll, Bool.or_eq_false_iff] at hd
        obtain ⟨as, q1⟩ := Fz.reads0 I d _ _ h1 r1 hd.1
        obtain ⟨bs, q2⟩ := Fz.readsA0 I ds _ _ h2 r2 hd.2
        exact ⟨_, ReadsAll.cons q1 q2⟩
end
end

/-! ### the relation -/
def RW (K : PySem.W.Frag) (H : Hp) : W → V → Prop
  | .d x, v => Fz K H v x
  | .v y, v => v = y
  | .p ds, v => ∃ a xs, v = .ref a ∧ SqT K H a xs ∧ FzA K H xs ds
theorem RW.ext {K : PySem.W.Frag} {H H' : Hp} (x : Ext H H') : ∀ {w : W} {v : V}, RW K H w v → RW K H' w v
  | .d _, _, h => Fz.ext x h
  | .v _, _, h => h
  | .p _, _, ⟨a, xs, e, q, r⟩ => ⟨a, xs, e, x.sqt q, FzA.ext x r⟩
inductive RWs (K : PySem.W.Frag) (H : Hp) : List W → List V → Prop
  | nil : RWs K H [] []
  | cons {w : W} {v : V} {ws : List W} {vs : List V} : RW K H w v → RWs K H ws vs → RWs K H (w :: ws) (v :: vs)
theorem RWs.ext {K : PySem.W.Frag} {H H' : Hp} (x : Ext H H') : ∀ {ws : List W} {vs : List V}, RWs K H ws vs → RWs K H' ws vs
  | _, _, .nil => .nil
  | _, _, .cons h t => .cons (h.ext x) (RWs.ext x t)
theorem RWs.length {K : PySem.W.Frag} {H : Hp} : ∀ {ws : List W} {vs : List V}, RWs K H ws vs → ws.length = vs.length
  | _, _, .nil => rfl
  | _, _, .cons _ t => congrArg Nat.succ (RWs.length t)
theorem RWs.append {K : PySem.W.Frag} {H : Hp} : ∀ {ws : List W} {vs : List V} {xs : List W} {us : List V}, RWs K H ws vs → RWs K H xs us → RWs K H (ws ++ xs) (vs ++ us)
  | _, _, _, _, .nil, s => s
  | _, _, _, _, .cons h t, s => .cons h (RWs.append t s)
theorem RWs.get {K : PySem.W.Frag} {H : Hp} : ∀ {vs : List W} {ds : List V} {i : Nat} {d : W}, RWs K H vs ds → vs[i]? = some d → ∃ v, ds[i]? = some v ∧ RW K H d v
  | _, _, i, _, .nil, e => by simp at e
  | _, _, 0, _, .cons h _, e => by simp at e; subst e; exact ⟨_, rfl, h⟩
  | _, _, i + 1, _, .cons _ t, e => by
    obtain ⟨v, h1, h2⟩ := RWs.get (i := i) t (by simpa using e)
    exact ⟨v, by simpa using h1, h2⟩
theorem RWs.set {K : PySem.W.Frag} {H : Hp} {w : W} {v : V} (r : RW K H w v) : ∀ {ws : List W} {vs : List V} (i : Nat), RWs K H ws vs → RWs K H (ws.set i w) (vs.set i v)
  | _, _, _, .nil => .nil
  | _, _, 0, .cons _ t => .cons r t
  | _, _, i + 1, .cons q t => .cons q (RWs.set r i t)
/-- all are data: the list of them -/
def datas : List W → Option (List PyData)
  | [] => some []
  | .d x :: ws => (datas ws).map (x :: ·)
  | .v _ :: _ => none
  | .p _ :: _ => none
theorem RWs.data {K : PySem.W.Frag} {H : Hp} : ∀ {ws : List W} {vs : List V} {ds : List PyData}, RWs K H ws vs → datas ws = some ds → FzA K H vs ds
  | _, _, _, .nil, e => by cases e; exact .nil
  | .d x :: ws, _, _, .cons h t, e => by
    simp only [datas, Option.map_eq_some_iff] at e
    obtain ⟨ds, e1, rfl⟩ := e
    exact .cons h (RWs.data t e1)
  | .v _ :: _, _, _, .cons _ _, e => by cases e
  | .p _ :: _, _, _, .cons _ _, e => by cases e
theorem datas_map : ∀ ds : List PyData, datas (ds.map W.d) = some ds
  | [] => rfl
  | d :: ds => by simp [datas, datas_map ds]
theorem RWs.of_data {K : PySem.W.Frag} {H : Hp} : ∀ {vs : List V} {ds : List PyData}, FzA K H vs ds → RWs K H (ds.map W.d) vs
  | _, _, .nil => .nil
  | _, _, .cons h t => .cons h (RWs.of_data t)
def RFs (K : PySem.W.Frag) (H : Hp) (fs : List (Str × W)) (gs : List (Str × V)) : Prop := fs.map (·.1) = gs.map (·.1) ∧ RWs K H (fs.map (·.2)) (gs.map (·.2))
inductive RO (K : PySem.W.Frag) (H : Hp) : MO → HO → Prop
  | lst {ws : List W} {vs : List V} : RWs K H ws vs → RO K H (.lst ws) (.lst vs)
  | ins {C dx : Addr} {fs : List (Str × W)} {gs : List (Str × V)} : RFs K H fs gs → RO K H (.ins C dx fs) (.ins C dx gs)
theorem RO.ext {K : PySem.W.Frag} {H H' : Hp} (x : Ext H H') : ∀ {o : MO} {u : HO}, RO K H o u → RO K H' o u
  | _, _, .lst h => .lst (RWs.ext x h)
  | _, _, .ins h => .ins ⟨h.1, RWs.ext x h.2⟩
def View (K : PySem.W.Frag) (m : MM) (H : Hp) : Prop := ∀ a o, m a = some o → ∃ u, H a = some u ∧ RO K H o u
theorem View.sub {K : PySem.W.Frag} {m m' : MM} {H : Hp} (h : View K m' H) (s : Sub m m') : View K m H := fun a o e => h a o (s a o e)
theorem View.free {K : PySem.W.Frag} {m : MM} {H : Hp} {a : Addr} (h : View K m H) (n : H a = none) : m a = none := by
  cases e : m a with
  | none => rfl
  | some o => obtain ⟨u, q, _⟩ := h a o e; rw [n] at q; cases q
theorem View.lst {K : PySem.W.Frag} {m : MM} {H : Hp} {a : Addr} {ws : List W} (h : View K m H) (e : m a = some (.lst ws)) : ∃ vs, H a = some (.lst vs) ∧ RWs K H ws vs := by
  obtain ⟨u, q, r⟩ := h a _ e
  cases r with
  | lst r => exact ⟨_, q, r⟩
/-- a heap that grew by an object that the view does not have -/
theorem View.grow {K : PySem.W.Frag} {m : MM} {H : Hp} {a : Addr} {o : HO} (h : View K m H) (n : H a = none) : View K m (upd H a o) := fun b u e => by
  obtain ⟨x, q, r⟩ := h b u e
  exact ⟨x, by rw [upd_ne (ne_of_none q n)]; exact q, r.ext (.new n)⟩
theorem View.new {K : PySem.W.Frag} {m : MM} {H : Hp} {a : Addr} {o : MO} {u : HO} (h : View K m H) (n : H a = none) (r : RO K (upd H a u) o u) : View K (mset m a o) (upd H a u) := fun b x e => by
  by_cases hb : b = a
  · subst hb
    rw [mset_same] at e; cases e
    exact ⟨u, upd_same, r⟩
  · rw [mset_ne hb] at e
    exact h.grow n b x e
theorem View.put {K : PySem.W.Frag} {m : MM} {H : Hp} {a : Addr} {o : MO} {u : HO} (h : View K m H) (x : Ext H (upd H a u)) (r : RO K (upd H a u) o u) : View K (mset m a o) (upd H a u) := fun b y e => by
  by_cases hb : b = a
  · subst hb
    rw [mset_same] at e; cases e
    exact ⟨u, upd_same, r⟩
  · rw [mset_ne hb] at e
    obtain ⟨z, q, r'⟩ := h b y e
    exact ⟨z, by rw [upd_ne hb]; exact q, r'.ext x⟩
/-- .. the object at a forgotten -/
def mdel (m : MM) (a : Addr) : MM := fun b => if b = a then none else m b
theorem mdel_sub (m : MM) (a : Addr) : Sub (mdel m a) m := fun b o e => by
  unfold mdel at e
  split at e
  · cases e
  · exact e
theorem mdel_set {m : MM} {a : Addr} {o : MO} (h : m a = none) : mdel (mset m a o) a = m := by
  funext b
  unfold mdel mset
  split
  · rename_i e; subst e; exact h.symm
  · rfl
theorem View.drop {K : PySem.W.Frag} {m : MM} {H : Hp} {a : Addr} {u : HO} (h : View K m H) (x : Ext H (upd H a u)) : View K (mdel m a) (upd H a u) := fun b y e => by
  unfold mdel at e
  split at e
  · cases e
  · rename_i hb
    obtain ⟨z, q, r'⟩ := h b y e
    exact ⟨z, by rw [upd_ne hb]; exact q, r'.ext x⟩

abbrev DS := List (Option W)
def RS (K : PySem.W.Frag) (H : Hp) (σ' : DS) (σ : St) : Prop := σ'.length = σ.length ∧ ∀ (i : Nat) (w : W), σ'[i]? = some (some w) → ∃ v : V, σ[i]? = some (some v) ∧ RW K H w v
theorem RS.ext {K : PySem.W.Frag} {H H' : Hp} {σ' : DS} {σ : St} (x : Ext H H') (h : RS K H σ' σ) : RS K H' σ' σ := ⟨h.1, fun i w e => let ⟨v, a, b⟩ := h.2 i w e; ⟨v, a, b.ext x⟩⟩
theorem RS.set {K : PySem.W.Frag} {H : Hp} {σ' : DS} {σ : St} {w : W} {v : V} (h : RS K H σ' σ) (i : Nat) (r : RW K H w v) : RS K H (σ'.set i (some w)) (σ.set i (some v)) := by
  refine ⟨by simp [h.1], fun j u e => ?_⟩
  by_cases hj : i = j
  · subst hj
    have hl : i < σ'.length := by
      have := (List.getElem?_eq_some_iff.mp e).1
      simpa using this
    rw [List.getElem?_set_self hl] at e
    cases e
    exact ⟨v, List.getElem?_set_self (by rw [← h.1]; exact hl), r⟩
  · rw [List.getElem?_set_ne hj] at e
    rw [List.getElem?_set_ne hj]
    exact h.2 j u e
/-! ### lifted readings -/
abbrev DK := W → MM → Prop
abbrev DTE := DS → MM → DK → Prop
abbrev DTT := DS → MM → (Bool → MM → Prop) → Prop
abbrev DTA := DS → MM → (List W → MM → Prop) → Prop
structure DEnds where
  nx : DS → MM → Prop
  rt : DK
  bk : DS → MM → Prop := fun _ _ => False
  ct : DS → MM → Prop := fun _ _ => False
abbrev DTS := DEnds → DS → MM → Prop
/-- from (m, H) to (m', H'): what is never changed stays, and what is not in the view -/
structure Step (m : MM) (H : Hp) (m' : MM) (H' : Hp) : Prop where
  ext : Ext H H'
  fr : ∀ a o, H a = some o → m a = none → H' a = some o ∧ m' a = none
theorem Step.refl (m : MM) (H : Hp) : Step m H m H := ⟨.refl H, fun _ _ h k => ⟨h, k⟩⟩
theorem Step.trans {m m1 m2 : MM} {H H1 H2 : Hp} (a : Step m H m1 H1) (b : Step m1 H1 m2 H2) : Step m H m2 H2 :=
  ⟨a.ext.trans b.ext, fun x o h k => let ⟨p, q⟩ := a.fr x o h k; b.fr x o p q⟩
theorem Step.new {m : MM} {H : Hp} {a : Addr} {o : HO} (n : H a = none) : Step m H m (upd H a o) := ⟨.new n, fun x u h k => ⟨by rw [upd_ne (ne_of_none h n)]; exact h, k⟩⟩
theorem Step.newM {m : MM} {H : Hp} {a : Addr} {o : HO} {u : MO} (n : H a = none) : Step m H (mset m a u) (upd H a o) := ⟨.new n, fun x u h k => ⟨by rw [upd_ne (ne_of_none h n)]; exact h, by rw [mset_ne (ne_of_none h n)]; exact k⟩⟩
theorem Step.put {m : MM} {H : Hp} {a : Addr} {o : HO} {u x : MO} (e : Ext H (upd H a o)) (hm : m a = some x) : Step m H (mset m a u) (upd H a o) := ⟨e, fun b y h k => by
  have : b ≠ a := fun z => by subst z; rw [hm] at k; cases k
  exact ⟨by rw [upd_ne this]; exact h, by rw [mset_ne this]; exact k⟩⟩
theorem Step.drop {m : MM} {H : Hp} {a : Addr} {o : HO} {x : MO} (e : Ext H (upd H a o)) (hm : m a = some x) : Step m H (mdel m a) (upd H a o) := ⟨e, fun b y h k => by
  have : b ≠ a := fun z => by subst z; rw [hm] at k; cases k
  exact ⟨by rw [upd_ne this]; exact h, by unfold mdel; rw [if_neg this]; exact k⟩⟩
section
variable (K : PySem.W.Frag)
def ClE (m : MM) (H : Hp) (Q' : DK) (Q : VK) : Prop := ∀ w m1 v H', Q' w m1 → Step m H m1 H' → View K m1 H' → RW K H' w v → Q v H'
def ClT (m : MM) (H : Hp) (Q' : Bool → MM → Prop) (Q : Bool → Hp → Prop) : Prop := ∀ b m1 H', Q' b m1 → Step m H m1 H' → View K m1 H' → Q b H'
def ClA (m : MM) (H : Hp) (Q' : List W → MM → Prop) (Q : List V → Hp → Prop) : Prop := ∀ ws m1 vs H', Q' ws m1 → Step m H m1 H' → View K m1 H' → RWs K H' ws vs → Q vs H'
def ClS (m : MM) (H : Hp) (Q' : DS → MM → Prop) (Q : L2.St → Hp → Prop) : Prop := ∀ σ' m1 σ H', Q' σ' m1 → Step m H m1 H' → View K m1 H' → RS K H' σ' σ → Q σ H'
def lE (t : DTE) : TE := fun σ H Q => ∃ σ' m Q', RS K H σ' σ ∧ View K m H ∧ t σ' m Q' ∧ ClE K m H Q' Q
def lT (t : DTT) : TT := fun σ H Q => ∃ σ' m Q', RS K H σ' σ ∧ View K m H ∧ t σ' m Q' ∧ ClT K m H Q' Q
def lA (t : DTA) : TA := fun σ H Q => ∃ σ' m Q', RS K H σ' σ ∧ View K m H ∧ t σ' m Q' ∧ ClA K m H Q' Q
structure ClD (m : MM) (H : Hp) (D' : DEnds) (D : Ends) : Prop where
  nx : ClS K m H D'.nx D.nx
  rt : ClE K m H D'.rt D.rt
  bk : ClS K m H D'.bk D.bk
  ct : ClS K m H D'.ct D.ct
def lS (t : DTS) : TS := fun D σ H => ∃ σ' m D', RS K H σ' σ ∧ View K m H ∧ t D' σ' m ∧ ClD K m H D' D
end
section
variable {K : PySem.W.Frag} {H H1 : Hp} {m m1 : MM}
theorem ClE.ext {Q' : DK} {Q : VK} (x : Step m H m1 H1) (h : ClE K m H Q' Q) : ClE K m1 H1 Q' Q := fun w m v H' q e => h w m v H' q (x.trans e)
theorem ClT.ext {Q' : Bool → MM → Prop} {Q : Bool → Hp → Prop} (x : Step m H m1 H1) (h : ClT K m H Q' Q) : ClT K m1 H1 Q' Q := fun w m H' q e => h w m H' q (x.trans e)
theorem ClA.ext {Q' : List W → MM → Prop} {Q : List V → Hp → Prop} (x : Step m H m1 H1) (h : ClA K m H Q' Q) : ClA K m1 H1 Q' Q := fun w m v H' q e => h w m v H' q (x.trans e)
theorem ClS.ext {Q' : DS → MM → Prop} {Q : L2.St → Hp → Prop} (x : Step m H m1 H1) (h : ClS K m H Q' Q) : ClS K m1 H1 Q' Q := fun w m v H' q e => h w m v H' q (x.trans e)
theorem ClD.ext {D' : DEnds} {D : Ends} (x : Step m H m1 H1) (h : ClD K m H D' D) : ClD K m1 H1 D' D := ⟨h.nx.ext x, h.rt.ext x, h.bk.ext x, h.ct.ext x⟩
end
/-- judgements of the layer -/
abbrev DE (X : Cx) (e : Expr) (t : DTE) : Prop := PE X e (lE X.K t)
abbrev DT (X : Cx) (e : Expr) (t : DTT) : Prop := PT X e (lT X.K t)
abbrev DW (X : Cx) (e : Expr) (t : DTT) : Prop := PW X e (lT X.K t)
abbrev DA (X : Cx) (es : List Expr) (t : DTA) : Prop := PA X es (lA X.K t)
abbrev DSt (X : Cx) (st : Stmt) (t : DTS) : Prop := PS X st (lS X.K t)
abbrev DSs (X : Cx) (st : List Stmt) (t : DTS) : Prop := PSs X st (lS X.K t)

theorem PE.mono {X : Cx} {e : Expr} {t t' : TE} (h : PE X e t) (k : ∀ σ H Q, t' σ H Q → t σ H Q) : PE X e t' := ⟨fun pins s σ H Q I q => h.run pins s σ H Q I (k σ H Q q)⟩
theorem PT.mono {X : Cx} {e : Expr} {t t' : TT} (h : PT X e t) (k : ∀ σ H Q, t' σ H Q → t σ H Q) : PT X e t' := ⟨fun pins s σ H Q I q => h.run pins s σ H Q I (k σ H Q q)⟩
theorem PW.mono {X : Cx} {e : Expr} {t t' : TT} (h : PW X e t) (k : ∀ σ H Q, t' σ H Q → t σ H Q) : PW X e t' := ⟨fun whole pins s σ H Q I q => h.run whole pins s σ H Q I (k σ H Q q)⟩
theorem PA.mono {X : Cx} {e : List Expr} {t t' : TA} (h : PA X e t) (k : ∀ σ H Q, t' σ H Q → t σ H Q) : PA X e t' := ⟨fun pos pins s σ H Q I q => h.run pos pins s σ H Q I (k σ H Q q)⟩
theorem PS.mono {X : Cx} {e : Stmt} {t t' : TS} (h : PS X e t) (k : ∀ D σ H, t' D σ H → t D σ H) : PS X e t' := ⟨fun pins s σ H D I q => h.run pins s σ H D I (k D σ H q)⟩
theorem PSs.mono {X : Cx} {e : List Stmt} {t t' : TS} (h : PSs X e t) (k : ∀ D σ H, t' D σ H → t D σ H) : PSs X e t' := ⟨fun pins s σ H D I q => h.run pins s σ H D I (k D σ H q)⟩
end DL
end
section
namespace DL
open PySem PySem.Spec L2
open PyProof.Rows hiding St

/-! ### data with dicts -/
section
variable {X : Cx} {pins : List (Addr × Obj)} {σ : L2.St} {H : Hp} {s : Shared}
theorem pairs_keys {P : Program} {w : World} {h : Heap} : ∀ {es : List DictEntry} {kvs : List (Key × Value)}, Pairs (mixKind P w) es kvs → ReadsAll h (es.map (·.key)) (kvs.map fun p => kD p.1) [] ∧ es.map (·.val) = kvs.map (·.2)
  | _, _, .nil => ⟨.nil, rfl⟩
  | e :: es, kv :: kvs, .cons h1 h2 t => by
    obtain ⟨r, q⟩ := pairs_keys (h := h) t
    refine ⟨?_, by simp [h2, q]⟩
    rw [mixKind_is] at h1
    rcases keyIs_shape h1 with ⟨i, t, e1, e2⟩ | ⟨x, t, e1, e2⟩
    · show ReadsAll h (e.key :: es.map (·.key)) (kD kv.1 :: kvs.map fun p => kD p.1) ([] ++ [])
      rw [e1, e2]; exact .cons (.int i t) r
    · show ReadsAll h (e.key :: es.map (·.key)) (kD kv.1 :: kvs.map fun p => kD p.1) ([] ++ [])
      rw [e1, e2]; exact .cons (.str x t) r
theorem kv_split : ∀ {ks : List Key} {vs : List V} {kvs : List (Key × Value)}, ks.length = vs.length → KV (ks.zip vs) kvs → kvs.map (fun p => kD p.1) = ks.map kD ∧ Vals vs (kvs.map (·.2))
  | [], [], _, _, .nil => ⟨rfl, .nil⟩
  | k :: ks, v :: vs, _, e, .cons h t => by
    obtain ⟨a, b⟩ := kv_split (ks := ks) (vs := vs) (by simpa using e) t
    obtain ⟨h1, h2⟩ := h
    exact ⟨by simp only [List.map_cons, a]; rw [← h1], .cons h2 b⟩
theorem zip_fst {α β : Type} : ∀ {l : List α} {r : List β}, l.length = r.length → (l.zip r).map (·.1) = l
  | [], [], _ => rfl
  | a :: l, b :: r, e => by simp [zip_fst (l := l) (r := r) (by simpa using e)]
theorem zip_snd {α β : Type} : ∀ {l : List α} {r : List β}, l.length = r.length → (l.zip r).map (·.2) = r
  | [], [], _ => rfl
  | a :: l, b :: r, e => by simp [zip_snd (l := l) (r := r) (by simpa using e)]
mutual
theorem Fz.reads (I : Inv X pins σ H s) : ∀ {v : V} {d : PyData}, Fz X.K H v d → ∀ {u : Value}, RelV v u → ∃ as, Reads s.heap u d as ∧ (noLst d = true → sysModules ∉ as)
  | _, _, .non, _, r => by
    cases r
    exact ⟨_, Reads.none, by simp⟩
  | _, _, .bl b, _, r => by
    cases r
    exact ⟨_, Reads.bool b, by simp⟩
  | _, _, .int i, _, r => by
    obtain ⟨t, rfl⟩ := r
    exact ⟨_, Reads.int i t, by simp⟩
  | _, _, .str x, _, r => by
    obtain ⟨t, rfl⟩ := r
    exact ⟨_, Reads.str x t, by simp⟩
  | _, _, .lst hs _ ha, _, r => by
    cases r
    obtain ⟨its, rv, ⟨o, n, ho, hc, _, hdt⟩, _⟩ := I.list hs.sq
    obtain ⟨as, hr, _⟩ := FzA.reads I ha rv
    exact ⟨_, Reads.list ho hc hdt hr, by simp [noLst]⟩
  | _, _, .tup hs _ ha, _, r => by
    cases r
    obtain ⟨its, rv, ⟨o, ho, hc, n, hdt⟩, _⟩ := I.tuple hs.sq
    obtain ⟨as, hr, hn⟩ := FzA.reads I ha rv
    exact ⟨_, Reads.tuple ho hc hdt hr, fun q => hn (by simpa [noLst] using q)⟩
  | _, _, .dct (a := a) (ks := ks) (ds := ds) hH hl ha, _, r => by
    cases r
    obtain ⟨_, hz, hsys, kvs, rel, ob, es, ep, h1, hx, h2, _, hp, _⟩ := I.hok a _ hH
    obtain ⟨k1, k2⟩ := kv_split hl rel
    obtain ⟨p1, p2⟩ := pairs_keys (h := s.heap) hp
    have hld : (ks.map kD).length = ds.length := by rw [List.length_map, hl, ha.length]
    obtain ⟨bs, r2, hn⟩ := FzA.reads I ha k2
    refine ⟨_, Reads.dict h1 hx.1 h2 (as := []) (bs := bs) ?_ ?_, fun q => ?_⟩
    · rw [zip_fst hld, ← k1]; exact p1
    · rw [zip_snd hld, p2]; exact r2
    · have q' : noLstA ds = true := noLstK_zip hld (by simpa [noLst] using q)
      intro z
      simp only [List.append_nil, List.cons_append, List.nil_append, List.mem_cons] at z
      rcases z with z | z
      · exact absurd z.symm (by simpa using hsys)
      · exact hn q' z
theorem FzA.reads (I : Inv X pins σ H s) : ∀ {vs : List V} {ds : List PyData}, FzA X.K H vs ds → ∀ {us : List Value}, Vals vs us → ∃ as, ReadsAll s.heap us ds as ∧ (noLstA ds = true → sysModules ∉ as)
  | _, _, .nil, _, r => by
    cases r
    exact ⟨_, ReadsAll.nil, by simp⟩
  | _, _, .cons h1 h2, _, r => by
    cases r with
    | cons r1 r2 =>
      obtain ⟨as, q1, n1⟩ := Fz.reads I h1 r1
      obtain ⟨bs, q2, n2⟩ := FzA.reads I h2 r2
      refine ⟨_, ReadsAll.cons q1 q2, fun q => ?_⟩
      simp only [noLstA, Bool.and_eq_true] at q
      intro z
      rcases List.mem_append.mp z with z | z
      · exact n1 q.1 z
      · exact n2 q.2 z
end
end

/-! ### what a value holds just now -/
def peek (m : MM) : W → Option PyData
  | .d x => some x
  | .v (.ref a) => match m a with
    | some (.lst ws) => (datas ws).map .list
    | _ => none
  | .v _ => none
  | .p _ => none
/-- v reads as d in H: data, or a list that may change -/
def Pk (K : PySem.W.Frag) (H : Hp) (v : V) (d : PyData) : Prop := Fz K H v d ∨ ∃ a xs ds, v = .ref a ∧ d = .list ds ∧ H a = some (.lst xs) ∧ FzA K H xs ds
theorem View.peek {K : PySem.W.Frag} {m : MM} {H : Hp} (h : View K m H) {w : W} {v : V} {d : PyData} (r : RW K H w v) (e : DL.peek m w = some d) : Pk K H v d := by
  cases w with
  | d x =>
    have e' : some x = some d := e
    cases e'
    exact .inl r
  | v y =>
    cases y with
    | ref a =>
      cases r
      have e' : (match m a with | some (.lst ws) => (datas ws).map PyData.list | _ => none) = some d := e
      split at e'
      · rename_i ws hm
        simp only [Option.map_eq_some_iff] at e'
        obtain ⟨ds, e1, rfl⟩ := e'
        obtain ⟨vs, hv, rr⟩ := h.lst hm
        exact .inr ⟨a, vs, ds, rfl, rfl, hv, rr.data e1⟩
      · cases e'
    | _ =>
      have e' : (none : Option PyData) = some d := e
      cases e'
  | p xs =>
    have e' : (none : Option PyData) = some d := e
    cases e'
section
variable {X : Cx} {pins : List (Addr × Obj)} {σ : L2.St} {H : Hp} {s : Shared}
theorem Pk.reads (I : Inv X pins σ H s) {v : V} {d : PyData} {u : Value} (h : Pk X.K H v d) (r : RelV v u) : ∃ as, Reads s.heap u d as ∧ (noLst d = true → sysModules ∉ as) := by
  rcases h with h | ⟨a, xs, ds, rfl, rfl, hH, ha⟩
  · exact Fz.reads I h r
  · cases r
    obtain ⟨its, rv, ⟨o, n, ho, hc, _, hdt⟩, _⟩ := I.list (SqL.of (K := X.K) hH)
    obtain ⟨as, hr, _⟩ := FzA.reads I ha rv
    exact ⟨_, Reads.list ho hc hdt hr, by simp [noLst]⟩
/-- a list that is read: its items -/
theorem Pk.list {K : PySem.W.Frag} {H : Hp} {v : V} {ds : List PyData} (h : Pk K H v (.list ds)) : ∃ a xs, v = .ref a ∧ LsR K H a xs ∧ FzA K H xs ds := by
  rcases h with h | ⟨a, xs, es, rfl, e, hH, ha⟩
  · cases h with
    | lst h _ ha => exact ⟨_, _, rfl, .inr h, ha⟩
  · cases e; exact ⟨a, xs, rfl, .inl hH, ha⟩
theorem Inv.obj (I : Inv X pins σ H s) {a : Addr} {xs : List V} (h : LsR X.K H a xs) : xs.length ≤ sizeLine ∧ ∃ (its : List Value) (n : Nat), Vals xs its ∧ s.heap.get? a = some { cls := .type "list", data := .seq its.toArray n } := by
  rcases h with h | ⟨o, h⟩ | ⟨its, n, h, hz, r⟩
  · exact I.hok a _ h
  · exact (I.hok a _ h).2
  · exact ⟨by rw [r.length]; exact hz, its, n, r, I.kIn a _ h⟩
/-- a list is not changed any more -/
theorem Inv.frz (I : Inv X pins σ H s) {a : Addr} {xs : List V} (hH : H a = some (.lst xs)) : xs.length ≤ sizeLine ∧ ∃ o, Inv X pins σ (upd H a (.frz o (.lst xs))) s := by
  obtain ⟨z, its, n, rv, ho⟩ : xs.length ≤ sizeLine ∧ ∃ (its : List Value) (n : Nat), Vals xs its ∧ s.heap.get? a = some { cls := .type "list", data := .seq its.toArray n } := I.hok a _ hH
  refine ⟨z, { cls := .type "list", data := .seq its.toArray n }, ?_⟩
  have nown : ∀ b y, H b = some (.own y) → b ≠ a := fun b y r z => by subst z; rw [hH] at r; cases r
  have ntup : ∀ b ys, H b = some (.tup ys) → b ≠ a := fun b y r z => by subst z; rw [hH] at r; cases r
  have nfrz : ∀ b o u, H b = some (.frz o u) → b ≠ a := fun b o u r z => by subst z; rw [hH] at r; cases r
  have ntbl : ∀ b ps, H b = some (.tbl ps) → b ≠ a := fun b ps r z => by subst z; rw [hH] at r; cases r
  have nn : ∀ b, H b = none → b ≠ a := fun b r z => by subst z; rw [hH] at r; cases r
  refine I.un (h' := s.heap) (t' := s.toks) ⟨fun b ob q _ _ _ => q, fun b ob q _ _ _ => ⟨ob.slots, q⟩, fun b ob _ n _ => by rw [upd_ne (nn b n)]; exact n, fun b ob q _ => ⟨ob, q⟩, fun b ys q => by rw [upd_ne (ntup b ys q)]; exact q,
    fun b o u q => by rw [upd_ne (nfrz b o u q)]; exact q, fun b ps q => ⟨#[], by rw [upd_ne (ntbl b ps q), q]; simp⟩⟩ ?_
  intro b u q
  by_cases hb : b = a
  · subst hb
    rw [upd_same] at q; cases q
    exact ⟨ho, z, its, n, rv, ho⟩
  · rw [upd_ne hb] at q
    exact (I.hok b u q).stay (fun c v _ r => r) (fun c r => by rw [upd_ne (nown c b r)]; exact r) fun c ys r => by rw [upd_ne (ntup c ys r)]; exact r
/-- a new tuple: what its end asks -/
theorem Inv.newT (I : Inv X pins σ H s) {its : List Value} {vs : List V} {ds : List PyData} {t' : Nat} {m : MM} {Q' : DK} {Q : VK} (hv : Vals vs its) (hz : vs.length ≤ sizeLine) (ha : FzA X.K H vs ds) (vw : View X.K m H)
    (q : Q' (.d (.tuple ds)) m) (cl : ClE X.K m H Q' Q) : EP X pins σ Q (.ref s.heap.objs.size) { s with heap := s.heap.push { cls := .type "tuple", data := .seq its.toArray }, toks := t' } := by
  have nf : H s.heap.objs.size = none := I.hok.fresh (Nat.le_refl _)
  have e : (s.heap.push { cls := .type "tuple", data := .seq its.toArray }).get? s.heap.objs.size = some { cls := .type "tuple", data := .seq its.toArray } := Heap.get?_push_size _ rfl
  have x : Ext H (upd H s.heap.objs.size (.frz { cls := .type "tuple", data := .seq its.toArray } (.tup vs))) := .new nf
  refine ⟨.ref _, _, I.laid (t' := t') (o := .frz { cls := .type "tuple", data := .seq its.toArray } (.tup vs)) (fun b u r => Heap.get?_push_of_some _ r) (Nat.le_refl _) ⟨e, hz, its, hv, ⟨_, e, rfl, _, rfl⟩⟩, rfl,
    cl _ m _ _ q (.new nf) (vw.grow nf) (.tup (.inl ⟨_, upd_same, rfl⟩) hz (ha.ext x))⟩
/-- a new list, data from now on: what its end asks -/
theorem Inv.newF (I : Inv X pins σ H s) {its : List Value} {vs : List V} {ds : List PyData} {t' : Nat} {m : MM} {Q' : DK} {Q : VK} (hv : Vals vs its) (hz : vs.length ≤ sizeLine) (ha : FzA X.K H vs ds) (vw : View X.K m H)
    (q : Q' (.d (.list ds)) m) (cl : ClE X.K m H Q' Q) : EP X pins σ Q (.ref s.heap.objs.size) { s with heap := s.heap.push { cls := .type "list", data := .seq its.toArray }, toks := t' } := by
  have nf : H s.heap.objs.size = none := I.hok.fresh (Nat.le_refl _)
  have I1 := I.lnew (t' := t') hv hz
  obtain ⟨_, o, I2⟩ := Inv.frz I1 (a := s.heap.objs.size) upd_same
  rw [upd_upd] at I2
  have x : Ext H (upd H s.heap.objs.size (.frz o (.lst vs))) := .new nf
  exact ⟨.ref _, _, I2, rfl, cl _ m _ _ q (.new nf) (vw.grow nf) (.lst (.inl ⟨o, upd_same⟩) hz (ha.ext x))⟩
theorem Pk.tup {K : PySem.W.Frag} {H : Hp} {v : V} {ds : List PyData} (h : Pk K H v (.tuple ds)) : ∃ a xs, v = .ref a ∧ FzT K H a xs ∧ FzA K H xs ds ∧ xs.length ≤ sizeLine := by
  rcases h with h | ⟨a, xs, es, rfl, e, hH, ha⟩
  · cases h with
    | tup h z ha => exact ⟨_, _, rfl, h, ha, z⟩
  · cases e
end

/-! ### names, constants -/
def dVar (i : Nat) : DTE := fun σ m Q => match σ[i]? with | some (some w) => Q w m | _ => False
def dC (x : PyData) : DTE := fun _ m Q => Q (.d x) m
def dV (v : V) : DTE := fun _ m Q => Q (.v v) m
section
variable {X : Cx} {a b c : Expr} {ta tb tc : DTE} {pos : Pos} {K : PySem.W.Frag}
theorem de_of {e : Expr} {t : TE} {t' : DTE} (h : PE X e t) (k : ∀ σ H Q, lE X.K t' σ H Q → t σ H Q) : DE X e t' := PE.mono h k
theorem lE_var {K : PySem.W.Frag} {i : Nat} : ∀ σ H Q, lE K (dVar i) σ H Q → tVar i σ H Q := fun σ H Q ⟨σ', m, Q', rs, vw, h, cl⟩ => by
  unfold dVar at h
  split at h
  · rename_i w e
    obtain ⟨v, e1, r⟩ := rs.2 _ _ e
    exact ⟨v, e1, cl w m v H h (.refl m H) vw r⟩
  · exact h.elim
theorem de_var {i : Nat} {x : Str} {pos : Pos} (hN : X.N[i]? = some x) (hv : Vis X.env.scope x) (hd : (x == ("__debug__" : Str)) = false := by decide) (hcd : (x == ("__classdict__" : Str)) = false := by decide) : DE X (.Name x pos) (dVar i) := de_of (pe_var hN hv hd hcd) lE_var
theorem dv (i : Nat) {x : Str} {pos : Pos} (hN : X.N[i]? = some x := by rfl) (hv : Vis X.env.scope x := by first | exact Or.inl rfl | exact Or.inr (Or.inl rfl) | exact Or.inr (Or.inr rfl)) (hd : (x == ("__debug__" : Str)) = false := by decide)
    (hcd : (x == ("__classdict__" : Str)) = false := by decide) : DE X (.Name x pos) (dVar i) := de_var hN hv hd hcd
theorem lE_c {K : PySem.W.Frag} {x : PyData} {v : V} (hx : ∀ H, Fz K H v x) : ∀ σ H Q, lE K (dC x) σ H Q → tC v σ H Q := fun σ H Q ⟨σ', m, Q', rs, vw, h, cl⟩ => cl _ m v H h (.refl m H) vw (hx H)
theorem de_int {i j pos} : DE X (.Constant (.int i) j pos) (dC (.int i)) := de_of pe_int (lE_c fun _ => .int i)
theorem de_bl {b j pos} : DE X (.Constant (.bool b) j pos) (dC (.bool b)) := de_of pe_bl (lE_c fun _ => .bl b)
theorem de_non {j pos} : DE X (.Constant .none j pos) (dC .none) := de_of pe_non (lE_c fun _ => .non)
theorem de_str {x j pos} : DE X (.Constant (.str x) j pos) (dC (.str x)) := de_of pe_str (lE_c fun _ => .str x)
/-- a module's constant -/
theorem de_globI {x : Str} {i : Int} {t : Tok} {pos : Pos} (hg : Gl X x) (hm : X.mg x = some (.int i t)) (hd : (x == ("__debug__" : Str)) = false := by decide) : DE X (.Name x pos) (dC (.int i)) := de_of (pe_glob (v := .int i) hg hm ⟨t, rfl⟩ hd) (lE_c fun _ => .int i)
theorem de_globS {x : Str} {i : Str} {t : Tok} {pos : Pos} (hg : Gl X x) (hm : X.mg x = some (.str i t)) (hd : (x == ("__debug__" : Str)) = false := by decide) : DE X (.Name x pos) (dC (.str i)) := de_of (pe_glob (v := .str i) hg hm ⟨t, rfl⟩ hd) (lE_c fun _ => .str i)
/-- a built-in type as a value -/
theorem de_ty {x : Str} {n : String} {pos : Pos} (hg : Gl X x) (hm : X.mg x = none) (hv : bootBuiltins x = some (.type n)) (hn : x ≠ "__name__" := by decide) (hd : (x == ("__debug__" : Str)) = false := by decide) : DE X (.Name x pos) (dV (.ty n)) :=
  de_of (pe_bltn (v := .ty n) hg hm hv rfl hn hd) fun σ H Q ⟨σ', m, Q', rs, vw, h, cl⟩ => cl _ m _ H h (.refl m H) vw rfl

/-! ### two places, one place -/
abbrev DR2 := W → W → MM → DK → Prop
def lR (K : PySem.W.Frag) (r : DR2) : R2 := fun x y H Q => ∃ wx wy m Q', RW K H wx x ∧ RW K H wy y ∧ View K m H ∧ r wx wy m Q' ∧ ClE K m H Q' Q
abbrev DOp (X : Cx) (f : Value → Value → Sem Value) (r : DR2) : Prop := OpR X f (lR X.K r)
def dOp (r : DR2) (ta tb : DTE) : DTE := fun σ m Q => ta σ m fun x m1 => tb σ m1 fun y m2 => r x y m2 Q
theorem lE_op {K : PySem.W.Frag} {r : DR2} {ta tb : DTE} : ∀ σ H Q, lE K (dOp r ta tb) σ H Q → tOp (lR K r) (lE K ta) (lE K tb) σ H Q := fun σ H Q ⟨σ', m, Q', rs, vw, h, cl⟩ =>
  ⟨σ', m, _, rs, vw, h, fun w m1 v H1 q e1 vw1 rw1 => ⟨σ', m1, _, rs.ext e1.ext, vw1, q, fun w2 m2 v2 H2 q2 e2 vw2 rw2 => ⟨w, w2, m2, Q', rw1.ext e2.ext, rw2, vw2, q2, cl.ext (e1.trans e2)⟩⟩⟩
theorem de_op {op : Operator} {r : DR2} (ho : DOp X (binaryOp op) r) (ha : DE X a ta) (hb : DE X b tb) : DE X (.BinOp a op b pos) (dOp r ta tb) := de_of (pe_op ho ha hb) lE_op
theorem de_cmp {op : CmpOp} {r : DR2} (ho : DOp X (compareOp op) r) (ha : DE X a ta) (hb : DE X b tb) (hm : behindInMarks op b = false) : DE X (.Compare a [op] [b] pos) (dOp r ta tb) := de_of (pe_cmpR ho ha hb hm) lE_op
/-- a reading of a value as a test: it is a bool -/
def dTest (t : DTE) : DTT := fun σ m Q => t σ m fun x m' => match x with | .d (.bool k) => Q k m' | _ => False
theorem lT_test {K : PySem.W.Frag} {t : DTE} : ∀ σ H Q, lT K (dTest t) σ H Q → tTest (lE K t) σ H Q := fun σ H Q ⟨σ', m, Q', rs, vw, h, cl⟩ =>
  ⟨σ', m, _, rs, vw, h, fun w m1 v H1 q e1 vw1 rw1 => by
    split at q
    · rename_i k
      cases rw1
      exact ⟨k, rfl, cl k m1 H1 q e1 vw1⟩
    · exact q.elim⟩
theorem tTest_mono {t t' : TE} (k : ∀ σ H Q, t' σ H Q → t σ H Q) : ∀ σ H Q, tTest t' σ H Q → tTest t σ H Q := fun σ H Q h => k σ H _ h
theorem dt_cmp {op : CmpOp} {r : DR2} (ho : DOp X (compareOp op) r) (ha : DE X a ta) (hb : DE X b tb) (hm : behindInMarks op b = false) : DT X (.Compare a [op] [b] pos) (dTest (dOp r ta tb)) :=
  PT.mono (pt_cmpR ho ha hb hm) fun σ H Q h => tTest_mono lE_op σ H Q (lT_test σ H Q h)
theorem dt_val {e : Expr} {t : DTE} (h : DE X e t) (he : ∀ whole, isTrue e X.env whole = (do let v ← whole; standAt e.pos; holding [v] (truthy v)) := by intro _; rfl) : DT X e (dTest t) :=
  PT.mono (pt_val h he) fun σ H Q h => lT_test σ H Q h
/-- a op1 b op2 c -/
def dChain (r r' : DR2) (ta tb tc : DTE) : DTE := fun σ m Q => ta σ m fun x m1 => tb σ m1 fun y m2 => r x y m2 fun z m3 =>
  match z with | .d (.bool true) => tc σ m3 fun w' m4 => r' y w' m4 Q | .d (.bool false) => Q (.d (.bool false)) m3 | _ => False
theorem lE_chain {K : PySem.W.Frag} {r r' : DR2} {ta tb tc : DTE} : ∀ σ H Q, lE K (dChain r r' ta tb tc) σ H Q → tChain (lR K r) (lR K r') (lE K ta) (lE K tb) (lE K tc) σ H Q := fun σ H Q ⟨σ', m, Q', rs, vw, h, cl⟩ =>
  ⟨σ', m, _, rs, vw, h, fun w m1 v H1 q e1 vw1 rw1 => ⟨σ', m1, _, rs.ext e1.ext, vw1, q, fun w2 m2 v2 H2 q2 e2 vw2 rw2 => ⟨w, w2, m2, _, rw1.ext e2.ext, rw2, vw2, q2, fun w3 m3 v3 H3 q3 e3 vw3 rw3 => by

    split at q3
    · cases rw3
      refine ⟨true, rfl, ?_⟩
      rw [if_pos rfl]
      exact ⟨σ', m3, _, rs.ext ((e1.trans e2).trans e3).ext, vw3, q3, fun w4 m4 v4 H4 q4 e4 vw4 rw4 => ⟨w2, w4, m4, Q', rw2.ext (e3.trans e4).ext, rw4, vw4, q4, cl.ext ((e1.trans e2).trans (e3.trans e4))⟩⟩
    · cases rw3
      refine ⟨false, rfl, ?_⟩
      rw [if_neg Bool.false_ne_true]
      exact cl _ m3 _ H3 q3 ((e1.trans e2).trans e3) vw3 (.bl false)
    · exact q3.elim⟩⟩⟩
theorem de_chain {op op' : CmpOp} {r r' : DR2} (ho : DOp X (compareOp op) r) (ho' : DOp X (compareOp op') r') (ha : DE X a ta) (hb : DE X b tb) (hc : DE X c tc)
    (hm : lastMarks [op, op'] [b, c] = false := by with_unfolding_all rfl) : DE X (.Compare a [op, op'] [b, c] pos) (dChain r r' ta tb tc) := de_of (pe_chain ho ho' ha hb hc hm) lE_chain
theorem dt_chain {op op' : CmpOp} {r r' : DR2} (ho : DOp X (compareOp op) r) (ho' : DOp X (compareOp op') r') (ha : DE X a ta) (hb : DE X b tb) (hc : DE X c tc)
    (hm : lastMarks [op, op'] [b, c] = false := by with_unfolding_all rfl) : DT X (.Compare a [op, op'] [b, c] pos) (dTest (dChain r r' ta tb tc)) :=
  PT.mono (pt_chain ho ho' ha hb hc hm) fun σ H Q h => tTest_mono lE_chain σ H Q (lT_test σ H Q h)

/-! ### and, or, not, if -/
variable {tA tB : DTT} {rest : List Expr}
def dAnd (t u : DTT) : DTT := fun σ m Q => t σ m fun c m1 => if c = true then u σ m1 Q else Q false m1
def dOr (t u : DTT) : DTT := fun σ m Q => t σ m fun c m1 => if c = true then Q true m1 else u σ m1 Q
def dNot (t : DTT) : DTT := fun σ m Q => t σ m fun c m1 => Q (!c) m1
theorem dw_and1 (ha : DT X a tA) : DW X (.BoolOp .And [a] pos) tA := pw_and1 ha
theorem dw_or1 (ha : DT X a tA) : DW X (.BoolOp .Or [a] pos) tA := pw_or1 ha
theorem dw_and (ha : DT X a tA) (hb : DW X (.BoolOp .And (b :: rest) pos) tB) : DW X (.BoolOp .And (a :: b :: rest) pos) (dAnd tA tB) :=
  PW.mono (pw_and ha hb) fun σ H Q ⟨σ', m, Q', rs, vw, h, cl⟩ => ⟨σ', m, _, rs, vw, h, fun b m1 H1 q e1 vw1 => by
    cases b with
    | true => rw [if_pos rfl]; exact ⟨σ', m1, Q', rs.ext e1.ext, vw1, q, cl.ext e1⟩
    | false => rw [if_neg Bool.false_ne_true]; exact cl _ m1 H1 q e1 vw1⟩
theorem dw_or (ha : DT X a tA) (hb : DW X (.BoolOp .Or (b :: rest) pos) tB) : DW X (.BoolOp .Or (a :: b :: rest) pos) (dOr tA tB) :=
  PW.mono (pw_or ha hb) fun σ H Q ⟨σ', m, Q', rs, vw, h, cl⟩ => ⟨σ', m, _, rs, vw, h, fun b m1 H1 q e1 vw1 => by
    cases b with
    | false => rw [if_neg Bool.false_ne_true]; exact ⟨σ', m1, Q', rs.ext e1.ext, vw1, q, cl.ext e1⟩
    | true => rw [if_pos rfl]; exact cl _ m1 H1 q e1 vw1⟩
theorem dt_w {e : Expr} {t : DTT} (h : DW X e t) : DT X e t := PW.pt h
theorem dt_not (ha : DT X a tA) : DT X (.UnaryOp .Not a pos) (dNot tA) :=
  PT.mono (pt_not ha) fun σ H Q ⟨σ', m, Q', rs, vw, h, cl⟩ => ⟨σ', m, _, rs, vw, h, fun b m1 H1 q e1 vw1 => cl _ m1 H1 q e1 vw1⟩
def dAndV (ta tb : DTE) : DTE := fun σ m Q => ta σ m fun x m1 => match x with | .d (.bool c) => (if c = true then tb σ m1 Q else Q (.d (.bool false)) m1) | _ => False
def dOrV (ta tb : DTE) : DTE := fun σ m Q => ta σ m fun x m1 => match x with | .d (.bool c) => (if c = true then Q (.d (.bool true)) m1 else tb σ m1 Q) | _ => False
def dNotV (ta : DTE) : DTE := fun σ m Q => ta σ m fun x m1 => match x with | .d (.bool c) => Q (.d (.bool (!c))) m1 | _ => False
theorem de_one {op} {t : DTE} (h : DE X a t) : DE X (.BoolOp op [a] pos) t := pe_one h
theorem de_and (ha : DE X a ta) (hb : DE X (.BoolOp .And (b :: rest) pos) tb) : DE X (.BoolOp .And (a :: b :: rest) pos) (dAndV ta tb) :=
  de_of (pe_and ha hb) fun σ H Q ⟨σ', m, Q', rs, vw, h, cl⟩ => ⟨σ', m, _, rs, vw, h, fun w m1 v H1 q e1 vw1 rw1 => by
    split at q
    · rename_i c
      cases rw1
      refine ⟨c, rfl, ?_⟩
      cases c with
      | true => rw [if_pos rfl] at q ⊢; exact ⟨σ', m1, Q', rs.ext e1.ext, vw1, q, cl.ext e1⟩
      | false => rw [if_neg Bool.false_ne_true] at q ⊢; exact cl _ m1 _ H1 q e1 vw1 (.bl false)
    · exact q.elim⟩
theorem de_or (ha : DE X a ta) (hb : DE X (.BoolOp .Or (b :: rest) pos) tb) : DE X (.BoolOp .Or (a :: b :: rest) pos) (dOrV ta tb) :=
  de_of (pe_or ha hb) fun σ H Q ⟨σ', m, Q', rs, vw, h, cl⟩ => ⟨σ', m, _, rs, vw, h, fun w m1 v H1 q e1 vw1 rw1 => by
    split at q
    · rename_i c
      cases rw1
      refine ⟨c, rfl, ?_⟩
      cases c with
      | false => rw [if_neg Bool.false_ne_true] at q ⊢; exact ⟨σ', m1, Q', rs.ext e1.ext, vw1, q, cl.ext e1⟩
      | true => rw [if_pos rfl] at q ⊢; exact cl _ m1 _ H1 q e1 vw1 (.bl true)
    · exact q.elim⟩
theorem de_not (ha : DE X a ta) : DE X (.UnaryOp .Not a pos) (dNotV ta) :=
  de_of (pe_not ha) fun σ H Q ⟨σ', m, Q', rs, vw, h, cl⟩ => ⟨σ', m, _, rs, vw, h, fun w m1 v H1 q e1 vw1 rw1 => by
    split at q
    · rename_i c
      cases rw1
      exact ⟨c, rfl, cl _ m1 _ H1 q e1 vw1 (.bl _)⟩
    · exact q.elim⟩
def dIf (t : DTT) (ta tb : DTE) : DTE := fun σ m Q => t σ m fun c m1 => if c = true then ta σ m1 Q else tb σ m1 Q
theorem de_if {c : Expr} (hc : DT X c tA) (ha : DE X a ta) (hb : DE X b tb) : DE X (.IfExp c a b pos) (dIf tA ta tb) :=
  de_of (pe_ifExp hc ha hb) fun σ H Q ⟨σ', m, Q', rs, vw, h, cl⟩ => ⟨σ', m, _, rs, vw, h, fun k m1 H1 q e1 vw1 => by
    cases k with
    | true => rw [if_pos rfl] at q ⊢; exact ⟨σ', m1, Q', rs.ext e1.ext, vw1, q, cl.ext e1⟩
    | false => rw [if_neg Bool.false_ne_true] at q ⊢; exact ⟨σ', m1, Q', rs.ext e1.ext, vw1, q, cl.ext e1⟩⟩

/-! ### arguments, displays -/
variable {e : Expr} {es : List Expr} {te : DTE} {t : DTA}
def dNil : DTA := fun _ m Q => Q [] m
def dCons (ta : DTE) (tr : DTA) : DTA := fun σ m Q => ta σ m fun x m1 => tr σ m1 fun xs m2 => Q (x :: xs) m2
theorem da_nil : DA X [] dNil := PA.mono pa_nil fun σ H Q ⟨σ', m, Q', rs, vw, h, cl⟩ => cl _ m _ H h (.refl m H) vw .nil
theorem da_cons (ha : DE X e te) (hr : DA X es t) (hs : starEach (e :: es) X.env = (false, eval e X.env) :: starEach es X.env := by rfl) : DA X (e :: es) (dCons te t) :=
  PA.mono (pa_cons ha hr hs) fun σ H Q ⟨σ', m, Q', rs, vw, h, cl⟩ => ⟨σ', m, _, rs, vw, h, fun w m1 v H1 q e1 vw1 rw1 => ⟨σ', m1, _, rs.ext e1.ext, vw1, q, fun ws m2 vs H2 q2 e2 vw2 rw2 =>
    cl _ m2 _ H2 q2 (e1.trans e2) vw2 (.cons (rw1.ext e2.ext) rw2)⟩⟩
def dTup (t : DTA) : DTE := fun σ m Q => t σ m fun ws m1 => match datas ws with | some ds => ds.length ≤ 16777216 ∧ Q (.d (.tuple ds)) m1 | none => False
/-- a list that may be changed later -/
def dLst (t : DTA) : DTE := fun σ m Q => t σ m fun ws m1 => ws.length ≤ 16777216 ∧ ∀ a, m1 a = none → Q (.v (.ref a)) (mset m1 a (.lst ws))
theorem line_le {n : Nat} (h : n ≤ 16777216) : n ≤ sizeLine := by rw [sizeLine_eq]; exact h
theorem de_tup {x1} (h : DA X es t) : DE X (.Tuple es x1 pos) (dTup t) := by
  refine ⟨fun pins s σ H Q I hq => ?_⟩
  obtain ⟨σ', m, Q', rs, vw, hq, cl⟩ := hq
  refine wpAny_Tuple_spliced (thn (h.run pos pins s σ H (fun vs H1 => ∃ ds m1, Step m H m1 H1 ∧ FzA X.K H1 vs ds ∧ View X.K m1 H1 ∧ ds.length ≤ 16777216 ∧ Q' (.d (.tuple ds)) m1) I ⟨σ', m, _, rs, vw, hq, fun ws m1 vs H1 q e1 vw1 rw1 => ?_⟩) fun us s1 ⟨xs, H1, I1, r, ds, m1, x, ha, vw1, z, q⟩ => ?_)
  · split at q
    · rename_i ds hd
      exact ⟨ds, m1, e1, rw1.data hd, vw1, q.1, q.2⟩
    · exact q.elim
  · have hl := ha.length
    have hr := r.length
    have hz : xs.length ≤ sizeLine := line_le (by omega)
    exact ⟨by rw [← hr]; exact hz, Inv.newT (t' := s1.toks) I1 r hz ha vw1 q (cl.ext x)⟩
theorem de_lst (h : DA X es t) : DE X (.List es pos) (dLst t) :=
  de_of (pe_lst h) fun σ H Q ⟨σ', m, Q', rs, vw, h, cl⟩ => ⟨σ', m, _, rs, vw, h, fun ws m1 vs H1 q e1 vw1 rw1 => by
    have hl := rw1.length
    refine ⟨line_le (by have := q.1; omega), fun p np => ?_⟩
    have x : Ext H1 (upd H1 p (.lst vs)) := .new np
    exact cl _ _ _ _ (q.2 p (vw1.free np)) (e1.trans (.newM np)) (vw1.new np (.lst (rw1.ext x))) rfl⟩
end

/-! ### a list is not changed any more -/
section
variable {X : Cx}
/-- the value of t, a list that nobody else may change, is data from now on -/
def tFrz (t : TE) : TE := fun σ H Q => t σ H fun v H1 => ∃ a xs, v = .ref a ∧ H1 a = some (.lst xs) ∧ ∀ o, xs.length ≤ sizeLine → Q (.ref a) (upd H1 a (.frz o (.lst xs)))
theorem pe_frz {e : Expr} {t : TE} (h : PE X e t) : PE X e (tFrz t) := ⟨fun pins s σ H Q I q => by
  refine thn (h.run pins s σ H _ I q) fun u s1 ⟨v, H1, I1, r1, a, xs, e, hH, q1⟩ => ?_
  subst e
  cases r1
  obtain ⟨z, o, I2⟩ := Inv.frz I1 hH
  exact ⟨.ref a, _, I2, rfl, q1 o z⟩⟩
/-- at the layer: the value, a list that may change, is data from now on -/
def dFrz (t : DTE) : DTE := fun σ m Q => t σ m fun w m1 => match w with
  | .v (.ref a) => (match m1 a with
    | some (.lst ws) => (match datas ws with | some ds => Q (.d (.list ds)) (mdel m1 a) | none => False)
    | _ => False)
  | _ => False
theorem de_frz {e : Expr} {t : DTE} (h : DE X e t) : DE X e (dFrz t) :=
  de_of (pe_frz h) fun σ H Q ⟨σ', m, Q', rs, vw, h, cl⟩ => ⟨σ', m, _, rs, vw, h, fun w m1 v H1 q e1 vw1 rw1 => by
    split at q
    · rename_i a
      cases rw1
      split at q
      · rename_i ws hm
        split at q
        · rename_i ds hd
          obtain ⟨vs, hv, rr⟩ := vw1.lst hm
          have ha := rr.data hd
          refine ⟨a, vs, rfl, hv, fun o z => ?_⟩
          have x : Ext H1 (upd H1 a (.frz o (.lst vs))) := .lst hv
          exact cl _ _ _ _ q (e1.trans (.drop x hm)) (vw1.drop x) (.lst (.inl ⟨o, upd_same⟩) z (ha.ext x))
        · exact q.elim
      · exact q.elim
    · exact q.elim⟩
/-- a list display, data from the start -/
def dLstF (t : DTA) : DTE := fun σ m Q => t σ m fun ws m1 => match datas ws with | some ds => ds.length ≤ 16777216 ∧ Q (.d (.list ds)) m1 | none => False
theorem datas_len : ∀ {ws : List W} {ds : List PyData}, datas ws = some ds → ws.length = ds.length
  | [], _, e => by cases e; rfl
  | .d x :: ws, _, e => by
    simp only [datas, Option.map_eq_some_iff] at e
    obtain ⟨ds, e1, rfl⟩ := e
    simp [datas_len e1]
  | .v _ :: _, _, e => by cases e
  | .p _ :: _, _, e => by cases e
theorem lE_mono {K : PySem.W.Frag} {t t' : DTE} (k : ∀ σ m Q, t' σ m Q → t σ m Q) : ∀ σ H Q, lE K t' σ H Q → lE K t σ H Q := fun σ H Q ⟨σ', m, Q', rs, vw, h, cl⟩ => ⟨σ', m, Q', rs, vw, k _ _ _ h, cl⟩
end
end DL
end
section
set_option maxHeartbeats 1000000
namespace DL
open PySem PySem.Spec L2
open PyProof.Rows hiding St

theorem room_hu {k : Nat} {A : Around} (r : Room k A) : A.units + 150 < cLine := by have := r.un; omega
section
variable {X : Cx} {pins : List (Addr × Obj)} {σ : L2.St} {H : Hp} {s : Shared} {m : MM} {Q' : DK} {Q : VK}
/-! ### ends -/
theorem eInt {k : Int} {t : Tok} (I : Inv X pins σ H s) (vw : View X.K m H) (cl : ClE X.K m H Q' Q) (q : Q' (.d (.int k)) m) : EP X pins σ Q (.int k t) s := ⟨.int k, H, I, ⟨t, rfl⟩, cl _ m _ H q (.refl m H) vw (.int k)⟩
theorem eBool {b b' : Bool} (I : Inv X pins σ H s) (vw : View X.K m H) (cl : ClE X.K m H Q' Q) (q : Q' (.d (.bool b)) m) (e : b = b' := by rfl) : EP X pins σ Q (.bool b') s := by
  subst e
  exact ⟨.bl b, H, I, rfl, cl _ m _ H q (.refl m H) vw (.bl b)⟩
theorem eStr {k : Str} {t : Tok} (I : Inv X pins σ H s) (vw : View X.K m H) (cl : ClE X.K m H Q' Q) (q : Q' (.d (.str k)) m) : EP X pins σ Q (.str k t) s := ⟨.str k, H, I, ⟨t, rfl⟩, cl _ m _ H q (.refl m H) vw (.str k)⟩
theorem eW {w : W} {v : V} {u : Value} (I : Inv X pins σ H s) (vw : View X.K m H) (cl : ClE X.K m H Q' Q) (r : RW X.K H w v) (rv : RelV v u) (q : Q' w m) : EP X pins σ Q u s := ⟨v, H, I, rv, cl _ m _ H q (.refl m H) vw r⟩
theorem le24 {n : Nat} (h : n ≤ 16777216) : n ≤ sizeLine := line_le h
theorem lt24 {n : Nat} (h : n < 16777216) : n < sizeLine := by rw [sizeLine_eq]; exact h
end

/-! ### arithmetic -/
def rAdd : DR2
  | .d (.int i), .d (.int j), m, Q => Q (.d (.int (i + j))) m
  | .d (.str i), .d (.str j), m, Q => i.length + j.length ≤ 16777216 ∧ Q (.d (.str (i ++ j))) m
  | .d (.tuple x), .d (.tuple y), m, Q => x.length + y.length ≤ 16777216 ∧ Q (.d (.tuple (x ++ y))) m
  | .d (.list x), .d (.list y), m, Q => x.length + y.length ≤ 16777216 ∧ Q (.d (.list (x ++ y))) m
  | _, _, _, _ => False
def rInt (C : Int → Int → Prop) (g : Int → Int → Int) : DR2
  | .d (.int i), .d (.int j), m, Q => C i j ∧ Q (.d (.int (g i j))) m
  | _, _, _, _ => False
def rInt0 (g : Int → Int → Int) : DR2
  | .d (.int i), .d (.int j), m, Q => Q (.d (.int (g i j))) m
  | _, _, _, _ => False
theorem vals_nil_of {vs : List V} {us : List Value} (r : Vals vs us) (h : vs = []) : us = [] := by subst h; cases r; rfl
section
variable {X : Cx}
theorem do_add : DOp X (binaryOp .Add) rAdd := by
  intro pins s σ H x y v u Q I rx ry h
  obtain ⟨wx, wy, m, Q', r1, r2, vw, h, cl⟩ := h
  unfold rAdd at h
  split at h
  · cases r1; cases r2
    obtain ⟨t, rfl⟩ := rx
    obtain ⟨t', rfl⟩ := ry
    exact add_int (eInt (I.tok _) vw cl h)
  · cases r1; cases r2
    obtain ⟨t, rfl⟩ := rx
    obtain ⟨t', rfl⟩ := ry
    exact add_str (fun t' tk => eStr (I.tok _) vw cl h.2) (le24 h.1)
  · skip
    cases r1 with
    | @tup a vs _ hx zx ax =>
      cases r2 with
      | @tup b us _ hy zy ay =>
        cases rx
        cases ry
        obtain ⟨its, rv, p1, _⟩ := I.tuple hx.sq
        obtain ⟨its2, rv2, p2, _⟩ := I.tuple hy.sq
        have l1 := ax.length
        have l2 := ay.length
        have e1 := rv.length
        have e2 := rv2.length
        by_cases h0 : its = []
        · subst h0
          have hv : vs = [] := by cases rv; rfl
          subst hv
          cases ax
          exact cat_tup0 p1 p2 (eW I vw cl (w := .d (.tuple _)) (Fz.tup hy zy ay) rfl (by simpa using h.2))
        · refine HT.cat_tup p1 p2 h0 (fun h1 => ?_) (fun h1 => ?_) (le24 (by have := h.1; omega))
          · subst h1
            have hv : us = [] := by cases rv2; rfl
            subst hv
            cases ay
            exact eW I vw cl (w := .d (.tuple _)) (Fz.tup hx zx ax) rfl (by simpa using h.2)
          · exact Inv.newT (t' := s.toks) I (rv.append rv2) (le24 (by simp only [List.length_append]; have := h.1; omega)) (ax.append ay) vw h.2 cl
  · skip
    cases r1 with
    | @lst a vs _ hx zx ax =>
      cases r2 with
      | @lst b us _ hy zy ay =>
        cases rx
        cases ry
        obtain ⟨_, its, n, rv, e⟩ := Inv.obj I (.inr hx)
        obtain ⟨_, its2, n2, rv2, e2⟩ := Inv.obj I (.inr hy)
        have l1 := ax.length
        have l2 := ay.length
        have q1 := rv.length
        have q2 := rv2.length
        refine PySem.P.add_list e e2 ?_ (by rw [List.size_toArray, List.size_toArray]; exact le24 (by have := h.1; omega))
        have ea : its.toArray ++ its2.toArray = (its ++ its2).toArray := by simp
        rw [ea]
        exact Inv.newF (t' := s.toks) I (rv.append rv2) (le24 (by simp only [List.length_append]; have := h.1; omega)) (ax.append ay) vw h.2 cl
  · exact h.elim
theorem do_intC {f : Value → Value → Sem Value} {C : Int → Int → Prop} {g : Int → Int → Int} (h0 : OpR X f (rI C fun i j => .int (g i j))) : DOp X f (rInt C g) := by
  intro pins s σ H x y v u Q I rx ry h
  obtain ⟨wx, wy, m, Q', r1, r2, vw, h, cl⟩ := h
  unfold rInt at h
  split at h
  · cases r1; cases r2
    exact h0 pins s σ H _ _ v u Q I rx ry ⟨_, _, rfl, rfl, h.1, cl _ m _ H h.2 (.refl m H) vw (.int _)⟩
  · exact h.elim
theorem do_int0 {f : Value → Value → Sem Value} {g : Int → Int → Int} (h0 : OpR X f (rI0 fun i j => .int (g i j))) : DOp X f (rInt0 g) := by
  intro pins s σ H x y v u Q I rx ry h
  obtain ⟨wx, wy, m, Q', r1, r2, vw, h, cl⟩ := h
  unfold rInt0 at h
  split at h
  · cases r1; cases r2
    exact h0 pins s σ H _ _ v u Q I rx ry ⟨_, _, rfl, rfl, cl _ m _ H h (.refl m H) vw (.int _)⟩
  · exact h.elim
abbrev rSub : DR2 := rInt0 fun i j => i - j
abbrev rMul : DR2 := rInt CMul fun i j => i * j
abbrev rMod : DR2 := rInt (fun _ j => 0 < j) fun i j => i % j
abbrev rFdiv : DR2 := rInt CDiv fun i j => i / j
abbrev rPow : DR2 := rInt CPow fun i j => i ^ j.toNat
theorem do_sub : DOp X (binaryOp .Sub) rSub := do_int0 op_sub
theorem do_mul : DOp X (binaryOp .Mult) rMul := do_intC op_mul
theorem do_mod : DOp X (binaryOp .Mod) rMod := do_intC op_mod
theorem do_fdiv : DOp X (binaryOp .FloorDiv) rFdiv := do_intC op_fdiv
theorem do_pow : DOp X (binaryOp .Pow) rPow := do_intC op_pow

/-! ### comparisons -/
def pairOk (a b : PyData) : Bool := a.plain && b.plain && decide (min a.depth b.depth ≤ 64)
def rEq : DR2 := fun x y m Q => match peek m x, peek m y with
  | some a, some b => pairOk a b = true ∧ Q (.d (.bool (PyData.eqv a b))) m
  | _, _ => False
def rNe : DR2 := fun x y m Q => match peek m x, peek m y with
  | some a, some b => pairOk a b = true ∧ Q (.d (.bool (!PyData.eqv a b))) m
  | _, _ => False
theorem do_eq (hu : X.A.units + 150 < cLine) : DOp X (compareOp .Eq) rEq := by
  intro pins s σ H x y v u Q I rx ry h
  obtain ⟨wx, wy, m, Q', r1, r2, vw, h, cl⟩ := h
  unfold rEq at h
  split at h
  · rename_i a b ea eb
    obtain ⟨as, q1, _⟩ := Pk.reads I (vw.peek r1 ea) rx
    obtain ⟨bs, q2, _⟩ := Pk.reads I (vw.peek r2 eb) ry
    have ho := h.1
    simp only [pairOk, Bool.and_eq_true, decide_eq_true_eq] at ho
    exact PySem.SeqAt.eq_plain q1 q2 ho.1.1 ho.1.2 (by omega) (eBool I vw cl h.2)
  · exact h.elim
theorem do_ne (hu : X.A.units + 150 < cLine) : DOp X (compareOp .NotEq) rNe := by
  intro pins s σ H x y v u Q I rx ry h
  obtain ⟨wx, wy, m, Q', r1, r2, vw, h, cl⟩ := h
  unfold rNe at h
  split at h
  · rename_i a b ea eb
    obtain ⟨as, q1, _⟩ := Pk.reads I (vw.peek r1 ea) rx
    obtain ⟨bs, q2, _⟩ := Pk.reads I (vw.peek r2 eb) ry
    have ho := h.1
    simp only [pairOk, Bool.and_eq_true, decide_eq_true_eq] at ho
    exact PySem.SeqAt.ne_plain q1 q2 ho.1.1 ho.1.2 (by omega) (eBool I vw cl h.2)
  · exact h.elim
def ordOk (a b : PyData) : Bool := PySem.W.alike a b && (match a with | .none => false | _ => true) && decide (min a.depth b.depth ≤ 64)
def rOrd (gi : Int → Int → Bool) (gd : PyData → PyData → Bool) : DR2 := fun x y m Q => match peek m x, peek m y with
  | some (.int i), some (.int j) => Q (.d (.bool (gi i j))) m
  | some a, some b => ordOk a b = true ∧ Q (.d (.bool (gd a b))) m
  | _, _ => False
abbrev rLt : DR2 := rOrd (fun i j => decide (i < j)) (fun a b => PySem.W.dataLt a b)
abbrev rGt : DR2 := rOrd (fun i j => decide (j < i)) (fun a b => PySem.W.dataLt b a)
abbrev rLe : DR2 := rOrd (fun i j => decide (i ≤ j)) (fun a b => !PySem.W.dataLt b a)
abbrev rGe : DR2 := rOrd (fun i j => decide (j ≤ i)) (fun a b => !PySem.W.dataLt a b)
theorem do_ord {f : Value → Value → Sem Value} {gi : Int → Int → Bool} {gd : PyData → PyData → Bool} (hu : X.A.units + 150 < cLine)
    (hi : ∀ (i j : Int) (t u : Tok) (s : Shared) (Q : Value → Shared → Prop), Q (.bool (gi i j)) s → wpAny (model X.prog X.w) X.A (f (.int i t) (.int j u)) Q X.xe s)
    (hd : ∀ (a b : Value) (da db : PyData) (as bs : List Addr) (s : Shared) (Q : Value → Shared → Prop), Reads s.heap a da as → Reads s.heap b db bs → PySem.W.alike da db = true → da ≠ .none → X.A.units + min da.depth db.depth < cLine → Q (.bool (gd da db)) s →
      wpAny (model X.prog X.w) X.A (f a b) Q X.xe s) : DOp X f (rOrd gi gd) := by
  intro pins s σ H x y v u Q I rx ry h
  obtain ⟨wx, wy, m, Q', r1, r2, vw, h, cl⟩ := h
  unfold rOrd at h
  split at h
  · rename_i i j ea eb
    obtain ⟨as, q1, _⟩ := Pk.reads I (vw.peek r1 ea) rx
    obtain ⟨bs, q2, _⟩ := Pk.reads I (vw.peek r2 eb) ry
    cases q1
    cases q2
    exact hi _ _ _ _ s _ (eBool I vw cl h)
  · rename_i a b _ ea eb
    obtain ⟨as, q1, _⟩ := Pk.reads I (vw.peek r1 ea) rx
    obtain ⟨bs, q2, _⟩ := Pk.reads I (vw.peek r2 eb) ry
    have ho := h.1
    simp only [ordOk, Bool.and_eq_true, decide_eq_true_eq] at ho
    exact hd _ _ a b as bs s _ q1 q2 ho.1.1 (by rintro rfl; simp at ho) (by omega) (eBool I vw cl h.2)
  · exact h.elim
theorem do_lt (hu : X.A.units + 150 < cLine) : DOp X (compareOp .Lt) rLt := do_ord hu (fun _ _ _ _ _ _ q => lt_int q) fun _ _ _ _ _ _ _ _ r1 r2 h1 h2 h3 q => PySem.W.lt_data r1 r2 h1 h2 h3 q
theorem do_gt (hu : X.A.units + 150 < cLine) : DOp X (compareOp .Gt) rGt := do_ord hu (fun _ _ _ _ _ _ q => gt_int q) fun _ _ _ _ _ _ _ _ r1 r2 h1 h2 h3 q => PySem.W.gt_data r1 r2 h1 h2 h3 q
theorem do_le (hu : X.A.units + 150 < cLine) : DOp X (compareOp .LtE) rLe := do_ord hu (fun _ _ _ _ _ _ q => le_int q) fun _ _ _ _ _ _ _ _ r1 r2 h1 h2 h3 q => PySem.W.le_data r1 r2 h1 h2 h3 q
theorem do_ge (hu : X.A.units + 150 < cLine) : DOp X (compareOp .GtE) rGe := do_ord hu (fun _ _ _ _ _ _ q => ge_int q) fun _ _ _ _ _ _ _ _ r1 r2 h1 h2 h3 q => PySem.W.ge_data r1 r2 h1 h2 h3 q
/-- x in c, x not in c -/
def inOk (x : PyData) (ys : List PyData) : Bool := PyData.plainAll ys && x.plain && decide (min (PyData.depthAll ys) x.depth ≤ 64)
def rIn (g : Bool → Bool) : DR2 := fun x y m Q => match peek m x, peek m y with
  | some a, some (.list ys) => inOk a ys = true ∧ Q (.d (.bool (g (ys.any fun z => PyData.eqv z a)))) m
  | some a, some (.tuple ys) => inOk a ys = true ∧ Q (.d (.bool (g (ys.any fun z => PyData.eqv z a)))) m
  | some (.str i), some (.str j) => Q (.d (.bool (g (!(Builtin.Str.occurrences j i 0 j.length 1).isEmpty)))) m
  | _, _ => False
theorem do_in (hu : X.A.units + 150 < cLine) : DOp X (compareOp .In) (rIn id) := by
  intro pins s σ H x y v u Q I rx ry h
  obtain ⟨wx, wy, m, Q', r1, r2, vw, h, cl⟩ := h
  unfold rIn at h
  split at h
  · rename_i a ys ea eb
    obtain ⟨as, q1, _⟩ := Pk.reads I (vw.peek r1 ea) rx
    obtain ⟨bs, q2, _⟩ := Pk.reads I (vw.peek r2 eb) ry
    have ho := h.1
    simp only [inOk, Bool.and_eq_true, decide_eq_true_eq] at ho
    exact PySem.SeqAt.in_list_data q2 q1 ho.1.1 ho.1.2 (by omega) (eBool I vw cl h.2)
  · rename_i a ys ea eb
    obtain ⟨as, q1, _⟩ := Pk.reads I (vw.peek r1 ea) rx
    obtain ⟨bs, q2, _⟩ := Pk.reads I (vw.peek r2 eb) ry
    have ho := h.1
    simp only [inOk, Bool.and_eq_true, decide_eq_true_eq] at ho
    exact PySem.SeqAt.in_tuple_data q2 q1 ho.1.1 ho.1.2 (by omega) (eBool I vw cl h.2)
  · rename_i i j ea eb
    obtain ⟨as, q1, _⟩ := Pk.reads I (vw.peek r1 ea) rx
    obtain ⟨bs, q2, _⟩ := Pk.reads I (vw.peek r2 eb) ry
    cases q1
    cases q2
    exact in_str (eBool I vw cl h)
  · exact h.elim
theorem do_notIn (hu : X.A.units + 150 < cLine) : DOp X (compareOp .NotIn) (rIn not) := by
  intro pins s σ H x y v u Q I rx ry h
  obtain ⟨wx, wy, m, Q', r1, r2, vw, h, cl⟩ := h
  unfold rIn at h
  split at h
  · rename_i a ys ea eb
    obtain ⟨as, q1, _⟩ := Pk.reads I (vw.peek r1 ea) rx
    obtain ⟨bs, q2, _⟩ := Pk.reads I (vw.peek r2 eb) ry
    have ho := h.1
    simp only [inOk, Bool.and_eq_true, decide_eq_true_eq] at ho
    exact PySem.SeqAt.notIn_list_data q2 q1 ho.1.1 ho.1.2 (by omega) (eBool I vw cl h.2)
  · rename_i a ys ea eb
    obtain ⟨as, q1, _⟩ := Pk.reads I (vw.peek r1 ea) rx
    obtain ⟨bs, q2, _⟩ := Pk.reads I (vw.peek r2 eb) ry
    have ho := h.1
    simp only [inOk, Bool.and_eq_true, decide_eq_true_eq] at ho
    exact PySem.SeqAt.notIn_tuple_data q2 q1 ho.1.1 ho.1.2 (by omega) (eBool I vw cl h.2)
  · rename_i i j ea eb
    obtain ⟨as, q1, _⟩ := Pk.reads I (vw.peek r1 ea) rx
    obtain ⟨bs, q2, _⟩ := Pk.reads I (vw.peek r2 eb) ry
    cases q1
    cases q2
    exact notIn_str (eBool I vw cl h)
  · exact h.elim
/-- x is None, x is not None -/
def isNon : W → Bool
  | .d .none => true
  | .v .non => true
  | _ => false
def rIs (g : Bool → Bool) : DR2 := fun x y m Q => match y with
  | .d .none => Q (.d (.bool (g (isNon x)))) m
  | _ => False
theorem isNon_rel {K : PySem.W.Frag} {H : Hp} {w : W} {x : V} {v : Value} (r : RW K H w x) (rv : RelV x v) : (v == Value.none) = isNon w := by
  rw [rv.none_iff]
  cases w with
  | d y => cases r <;> rfl
  | v y =>
    cases r
    cases x <;> rfl
  | p xs =>
    obtain ⟨a, ys, rfl, _⟩ := r
    rfl
theorem do_is : DOp X (compareOp .Is) (rIs id) := by
  intro pins s σ H x y v u Q I rx ry h
  obtain ⟨wx, wy, m, Q', r1, r2, vw, h, cl⟩ := h
  unfold rIs at h
  split at h
  · cases r2
    cases ry
    exact is_none_gen (eBool I vw cl h (by rw [isNon_rel r1 rx]; rfl))
  · exact h.elim
theorem do_isNot : DOp X (compareOp .IsNot) (rIs not) := by
  intro pins s σ H x y v u Q I rx ry h
  obtain ⟨wx, wy, m, Q', r1, r2, vw, h, cl⟩ := h
  unfold rIs at h
  split at h
  · cases r2
    cases ry
    exact isnot_none_gen (eBool I vw cl h (by rw [isNon_rel r1 rx]))
  · exact h.elim

/-! ### unary minus -/
def rNeg : W → MM → DK → Prop
  | .d (.int i), m, Q => Q (.d (.int (-i))) m
  | _, _, _ => False
def dUn (r : W → MM → DK → Prop) (ta : DTE) : DTE := fun σ m Q => ta σ m fun x m1 => r x m1 Q
theorem de_neg {a : Expr} {ta : DTE} {pos : Pos} (ha : DE X a ta) : DE X (.UnaryOp .USub a pos) (dUn rNeg ta) :=
  de_of (pe_un un_neg ha) fun σ H Q ⟨σ', m, Q', rs, vw, h, cl⟩ => ⟨σ', m, _, rs, vw, h, fun w m1 v H1 q e1 vw1 rw1 => by
    unfold rNeg at q
    split at q
    · cases rw1
      exact ⟨_, rfl, cl _ m1 _ H1 q e1 vw1 (.int _)⟩
    · exact q.elim⟩

/-! ### subscripts -/
def rIx : DR2 := fun x y m Q => match x, y with
  | .d (.list xs), .d (.int i) => (match atI xs i with | some d => Q (.d d) m | none => False)
  | .d (.tuple xs), .d (.int i) => (match atI xs i with | some d => Q (.d d) m | none => False)
  | .d (.str z), .d (.int i) => (match atI z.cps.toList i with | some c => z.length ≤ 16777216 ∧ Q (.d (.str ⟨#[c]⟩)) m | none => False)
  | .v (.ref a), .d (.int i) => (match m a with
    | some (.lst ws) => (match atI ws i with | some w => Q w m | none => False)
    | _ => False)
  | _, _ => False
theorem atI_at {α : Type} {xs : List α} {i : Int} {v : α} (h : atI xs i = some v) : ∃ j, ixN xs.length i = some j ∧ xs[j]? = some v := by
  unfold atI at h
  cases e : ixN xs.length i with
  | none => rw [e] at h; cases h
  | some j => rw [e] at h; exact ⟨j, rfl, h⟩
theorem at_atI {α : Type} {xs : List α} {i : Int} {v : α} {j : Nat} (h : ixN xs.length i = some j) (k : xs[j]? = some v) : atI xs i = some v := by
  unfold atI
  rw [h]
  exact k
theorem FzA.atI {K : PySem.W.Frag} {H : Hp} {vs : List V} {ds : List PyData} {i : Int} {d : PyData} (h : FzA K H vs ds) (e : L2.atI ds i = some d) : ∃ v, L2.atI vs i = some v ∧ Fz K H v d := by
  obtain ⟨j, h1, h2⟩ := atI_at e
  obtain ⟨v, h3, h4⟩ := h.get h2
  exact ⟨v, at_atI (by rw [h.length]; exact h1) h3, h4⟩
theorem RWs.atI {K : PySem.W.Frag} {H : Hp} {vs : List V} {ds : List W} {i : Int} {d : W} (h : RWs K H ds vs) (e : L2.atI ds i = some d) : ∃ v, L2.atI vs i = some v ∧ RW K H d v := by
  obtain ⟨j, h1, h2⟩ := atI_at e
  obtain ⟨v, h3, h4⟩ := h.get h2
  exact ⟨v, at_atI (by rw [← h.length]; exact h1) h3, h4⟩
theorem ix_all : IxR X (lR X.K rIx) := by
  intro value slice pins s σ H x y v u Q I rx ry h hs
  obtain ⟨wx, wy, m, Q', r1, r2, vw, h, cl⟩ := h
  unfold rIx at h
  split at h
  · split at h
    · rename_i xs i d e
      cases r2
      cases r1 with
      | lst h1 z ha =>
        obtain ⟨v', e', r'⟩ := ha.atI e
        exact ix_list value slice pins s σ H _ _ v u Q I rx ry ⟨_, _, _, v', rfl, rfl, h1.sq, e', cl _ m _ H h (.refl m H) vw r'⟩ hs
    · exact h.elim
  · split at h
    · rename_i xs i d e
      cases r2
      cases r1 with
      | tup h1 z ha =>
        obtain ⟨v', e', r'⟩ := ha.atI e
        exact ix_tup value slice pins s σ H _ _ v u Q I rx ry ⟨_, _, _, v', rfl, rfl, h1.sq, e', cl _ m _ H h (.refl m H) vw r'⟩ hs
    · exact h.elim
  · split at h
    · rename_i z i c e
      cases r1
      cases r2
      exact ix_str value slice pins s σ H _ _ v u Q I rx ry ⟨_, _, c, rfl, rfl, le24 h.1, e, cl _ m _ H h.2 (.refl m H) vw (.str _)⟩ hs
    · exact h.elim
  · split at h
    · rename_i a i _ ws hm
      split at h
      · rename_i w e
        cases r1
        cases r2
        obtain ⟨vs, hv, rr⟩ := vw.lst hm
        obtain ⟨v', e', r'⟩ := rr.atI e
        exact ix_list value slice pins s σ H _ _ v u Q I rx ry ⟨_, _, _, v', rfl, rfl, SqL.of hv, e', cl _ m _ H h (.refl m H) vw r'⟩ hs
      · exact h.elim
    · exact h.elim
  · exact h.elim
theorem de_ix {a b : Expr} {ta tb : DTE} {pos : Pos} (ha : DE X a ta) (hb : DE X b tb) (hs : PlainIx b := by exact fun _ _ => rfl) : DE X (.Subscript a b pos) (dOp rIx ta tb) := de_of (pe_ix ix_all ha hb hs) lE_op
/-- a[lo:hi] -/
def cut {α : Type} (xs : List α) (lo hi : Option Int) : List α := (xs.drop (HT.sIx xs.length 0 lo)).take (HT.sIx xs.length xs.length hi - HT.sIx xs.length 0 lo)
theorem cut_le {α : Type} (xs : List α) (lo hi : Option Int) : (cut xs lo hi).length ≤ xs.length := by
  unfold cut
  rw [List.length_take, List.length_drop]
  omega
theorem FzA.cut {K : PySem.W.Frag} {H : Hp} {vs : List V} {ds : List PyData} (h : FzA K H vs ds) (lo hi : Option Int) : FzA K H (DL.cut vs lo hi) (DL.cut ds lo hi) := by
  unfold DL.cut
  rw [h.length]
  exact (h.drop _).take _
abbrev DTO := DS → MM → (Option Int → MM → Prop) → Prop
def lO (K : PySem.W.Frag) (t : DTO) : TO := fun σ H Q => ∃ σ' m Q', RS K H σ' σ ∧ View K m H ∧ t σ' m Q' ∧ ∀ o m1 H1, Q' o m1 → Step m H m1 H1 → View K m1 H1 → Q o H1
abbrev DO (X : Cx) (e : Option Expr) (t : DTO) : Prop := PO X e (lO X.K t)
def dNoPart : DTO := fun _ m Q => Q none m
def dPart (t : DTE) : DTO := fun σ m Q => t σ m fun w m1 => match w with | .d (.int i) => Q (some i) m1 | _ => False
theorem PO.mono {e : Option Expr} {t t' : TO} (h : PO X e t) (k : ∀ σ H Q, t' σ H Q → t σ H Q) : PO X e t' := ⟨fun pins s σ H Q I q => h.run pins s σ H Q I (k σ H Q q)⟩
theorem dp_none : DO X none dNoPart := PO.mono po_none fun σ H Q ⟨σ', m, Q', rs, vw, h, cl⟩ => cl _ m H h (.refl m H) vw
theorem dp_some {e : Expr} {te : DTE} (h : DE X e te) : DO X (some e) (dPart te) := PO.mono (po_some h) fun σ H Q ⟨σ', m, Q', rs, vw, h, cl⟩ => ⟨σ', m, _, rs, vw, h, fun w m1 v H1 q e1 vw1 rw1 => by
  split at q
  · cases rw1
    exact ⟨_, rfl, cl _ m1 H1 q e1 vw1⟩
  · exact q.elim⟩
def rSl (w : W) (lo hi : Option Int) (m : MM) (Q : DK) : Prop := match peek m w with
  | some (.list xs) => Q (.d (.list (cut xs lo hi))) m
  | some (.tuple xs) => Q (.d (.tuple (cut xs lo hi))) m
  | _ => False
theorem cut_whole {α : Type} {xs : List α} {lo hi : Option Int} (h : HT.sIx xs.length 0 lo = 0 ∧ HT.sIx xs.length xs.length hi = xs.length) : cut xs lo hi = xs := by
  unfold cut
  rw [h.1, h.2]
  simp
theorem Vals.cut {vs : List V} {us : List Value} (h : Vals vs us) (lo hi : Option Int) : Vals (DL.cut vs lo hi) (DL.cut us lo hi) := by
  unfold DL.cut
  rw [h.length]
  exact (h.drop _).take _
theorem sl_all : SlR X (fun x lo hi H Q => ∃ w m Q', RW X.K H w x ∧ View X.K m H ∧ rSl w lo hi m Q' ∧ ClE X.K m H Q' Q) := by
  intro pins s σ H x v vl vu lo hi sl Q I rx hs pl pu h
  obtain ⟨w, m, Q', r1, vw, h, cl⟩ := h
  unfold rSl at h
  split at h
  · rename_i xs ep
    obtain ⟨a, vs, rfl, hL, ha⟩ := (vw.peek r1 ep).list
    cases rx
    obtain ⟨hz, its, n, rv, e⟩ := Inv.obj I hL
    have hl : s.heap.IsList a its.toArray := ⟨_, e, rfl, _, rfl⟩
    refine ⟨"list", _, slot_list_getitem.lookup, hl.typeIs, ?_⟩
    refine wpAny_getItem_list_slice hl hs pl pu .none (by simp) ?_ (by have := rv.length; rw [List.size_toArray] <;> omega)
    rw [slicePick_cut]
    exact Inv.newF (t' := s.toks) I (DL.Vals.cut rv lo hi) (Nat.le_trans (cut_le _ _ _) hz) (ha.cut lo hi) vw h cl
  · rename_i xs ep
    obtain ⟨a, vs, rfl, hT, ha, hz⟩ := (vw.peek r1 ep).tup
    cases rx
    obtain ⟨its, r, ht, _⟩ := I.tuple hT.sq
    have hlen : its.toArray.size = vs.length := by rw [List.size_toArray]; exact r.length.symm
    have hl := r.length
    refine ⟨"tuple", _, PyProof.Rows.slot_tuple_getitem.lookup, ht.typeIs, ?_⟩
    by_cases hw : HT.sIx vs.length 0 lo = 0 ∧ HT.sIx vs.length vs.length hi = vs.length
    · refine getItem_tuple_whole ht hs pl pu (by rw [hlen]; exact hw) ?_
      rw [ha.length] at hw
      rw [cut_whole hw] at h
      exact eW I vw cl (w := .d (.tuple xs)) (Fz.tup hT hz ha) rfl h
    · refine HT.getItem_tuple_cut ht hs pl pu (by rw [hlen]; exact hw) ?_ (by rw [hlen]; exact hz)
      rw [hlen]
      have hc := DL.Vals.cut r lo hi
      unfold DL.cut at hc
      rw [← hl] at hc
      exact Inv.newT (t' := s.toks) I hc (Nat.le_trans (cut_le vs lo hi) hz) (ha.cut lo hi) vw h cl
  · exact h.elim
def dSl (te : DTE) (tl th : DTO) : DTE := fun σ m Q => te σ m fun x m1 => tl σ m1 fun l m2 => th σ m2 fun u m3 => rSl x l u m3 Q
theorem de_slice {e : Expr} {lo hi : Option Expr} {te : DTE} {tl th : DTO} {p2 pos : Pos} (he : DE X e te) (hl : DO X lo tl) (hu : DO X hi th) : DE X (.Subscript e (.Slice lo hi none p2) pos) (dSl te tl th) :=
  de_of (pe_slice sl_all he hl hu) fun σ H Q ⟨σ', m, Q', rs, vw, h, cl⟩ => ⟨σ', m, _, rs, vw, h, fun w m1 v H1 q e1 vw1 rw1 => ⟨σ', m1, _, rs.ext e1.ext, vw1, q, fun o m2 H2 q2 e2 vw2 =>
    ⟨σ', m2, _, rs.ext (e1.trans e2).ext, vw2, q2, fun o3 m3 H3 q3 e3 vw3 => ⟨w, m3, Q', rw1.ext (e2.trans e3).ext, vw3, q3, cl.ext ((e1.trans e2).trans e3)⟩⟩⟩⟩
end
end DL
end
section
set_option maxHeartbeats 1000000
namespace DL
open PySem PySem.Spec L2
open PyProof.Rows hiding St

abbrev DR := List W → MM → DK → Prop
def lC (K : PySem.W.Frag) (r : DR) : List V → Hp → VK → Prop := fun vs H Q => ∃ ws m Q', RWs K H ws vs ∧ View K m H ∧ r ws m Q' ∧ ClE K m H Q' Q
abbrev DCall (X : Cx) (f : Value) (r : DR) : Prop := CallR X f (lC X.K r)
def dCall (r : DR) (t : DTA) : DTE := fun σ m Q => t σ m fun ws m1 => r ws m1 Q
theorem lE_call {K : PySem.W.Frag} {r : DR} {t : DTA} : ∀ σ H Q, lE K (dCall r t) σ H Q → tCB (lC K r) (lA K t) σ H Q := fun σ H Q ⟨σ', m, Q', rs, vw, h, cl⟩ =>
  ⟨σ', m, _, rs, vw, h, fun ws m1 vs H1 q e1 vw1 rw1 => ⟨ws, m1, Q', rw1, vw1, q, cl.ext e1⟩⟩
section
variable {X : Cx} {x : Str} {p pos : Pos} {e : Expr} {es : List Expr} {t : DTA} {bid T : String} {r : DR}
theorem de_callB (hc : DCall X (.builtin bid) r) (hg : Gl X x) (hm : X.mg x = none) (hv : bootBuiltins x = some (.builtin bid)) (ha : DA X (e :: es) t) (hn : x ≠ "__name__" := by decide) (hdb : (x == ("__debug__" : Str)) = false := by decide)
    (he : starEach (e :: es) X.env = (false, eval e X.env) :: starEach es X.env := by rfl) (hpl : (backTo pos (starEach es X.env)).any (·.1) = false := by rfl) : DE X (.Call (.Name x p) (e :: es) [] pos) (dCall r t) :=
  de_of (pe_callB hc hg hm hv ha hn hdb he hpl) lE_call
theorem de_callT (hc : DCall X (.type T) r) (hg : Gl X x) (hm : X.mg x = none) (hv : bootBuiltins x = some (.type T)) (ha : DA X (e :: es) t) (hn : x ≠ "__name__" := by decide) (hdb : (x == ("__debug__" : Str)) = false := by decide)
    (he : starEach (e :: es) X.env = (false, eval e X.env) :: starEach es X.env := by rfl) (hpl : (backTo pos (starEach es X.env)).any (·.1) = false := by rfl) : DE X (.Call (.Name x p) (e :: es) [] pos) (dCall r t) :=
  de_of (pe_callTy hc hg hm hv ha hn hdb he hpl) lE_call

theorem rws1 {K : PySem.W.Frag} {H : Hp} {w : W} {vs : List V} (h : RWs K H [w] vs) : ∃ v, vs = [v] ∧ RW K H w v := by
  cases h with
  | cons h t => cases t; exact ⟨_, rfl, h⟩
theorem rws2 {K : PySem.W.Frag} {H : Hp} {w u : W} {vs : List V} (h : RWs K H [w, u] vs) : ∃ v x, vs = [v, x] ∧ RW K H w v ∧ RW K H u x := by
  cases h with
  | cons h t =>
    cases t with
    | cons h2 t2 => cases t2; exact ⟨_, _, rfl, h, h2⟩

/-! ### isinstance -/
def isT : String → PyData → Option Bool
  | "int", d => some d.isInt
  | "bool", d => some d.isBool
  | "str", d => some d.isStr
  | "tuple", d => some d.isTuple
  | "list", d => some d.isList
  | "dict", d => some d.isDict
  | _, _ => none
def rIsi : DR := fun ws m Q => match ws with
  | [w, .v (.ty T)] => (match peek m w with | some d => (match isT T d with | some b => Q (.d (.bool b)) m | none => False) | none => False)
  | _ => False
theorem dc_isi : DCall X (.builtin "isinstance") rIsi := by
  intro pins s σ H xs us Q I rv h
  obtain ⟨ws, m, Q', rs, vw, h, cl⟩ := h
  unfold rIsi at h
  split at h
  · rename_i w T
    split at h
    · rename_i d hp
      split at h
      · rename_i b hb
        obtain ⟨v, v2, rfl, r1, r2⟩ := rws2 rs
        cases r2
        obtain ⟨u, u2, rfl, q1, q2⟩ := vals2 rv
        cases q2
        obtain ⟨as, rd, _⟩ := Pk.reads I (vw.peek r1 hp) q1
        unfold isT at hb
        split at hb <;> cases hb
        · exact PySem.W.isinstance_int_data rd fun tk _ => eBool (I.tok tk) vw cl h
        · exact PySem.W.isinstance_bool_data rd fun tk _ => eBool (I.tok tk) vw cl h
        · exact PySem.W.isinstance_str_data rd fun tk _ => eBool (I.tok tk) vw cl h
        · exact PySem.W.isinstance_tuple_data rd fun tk _ => eBool (I.tok tk) vw cl h
        · exact PySem.W.isinstance_list_data rd fun tk _ => eBool (I.tok tk) vw cl h
        · exact PySem.W.isinstance_dict_data rd fun tk _ => eBool (I.tok tk) vw cl h
      · exact h.elim
    · exact h.elim
  · exact h.elim

/-! ### len -/
def rLen : DR := fun ws m Q => match ws with
  | [.d (.list xs)] => Q (.d (.int xs.length)) m
  | [.d (.tuple xs)] => Q (.d (.int xs.length)) m
  | [.d (.str z)] => z.length ≤ 16777216 ∧ Q (.d (.int z.length)) m
  | [.v (.ref a)] => (match m a with | some (.lst ws) => Q (.d (.int ws.length)) m | _ => False)
  | _ => False
theorem dc_len : DCall X (.builtin "len") rLen := by
  intro pins s σ H xs us Q I rv h
  obtain ⟨ws, m, Q', rs, vw, h, cl⟩ := h
  unfold rLen at h
  split at h
  · obtain ⟨v, rfl, r1⟩ := rws1 rs
    cases r1 with
    | lst h1 z ha => exact call_len_seq pins s σ H _ us Q I rv ⟨_, _, rfl, .inl h1.sq, cl _ m _ H h (.refl m H) vw (by rw [ha.length]; exact Fz.int _)⟩
  · obtain ⟨v, rfl, r1⟩ := rws1 rs
    cases r1 with
    | tup h1 z ha => exact call_len_seq pins s σ H _ us Q I rv ⟨_, _, rfl, .inr h1.sq, cl _ m _ H h (.refl m H) vw (by rw [ha.length]; exact Fz.int _)⟩
  · obtain ⟨v, rfl, r1⟩ := rws1 rs
    cases r1
    exact call_len_str pins s σ H _ us Q I rv ⟨_, rfl, le24 h.1, cl _ m _ H h.2 (.refl m H) vw (Fz.int _)⟩
  · split at h
    · rename_i a _ ws hm
      obtain ⟨v, rfl, r1⟩ := rws1 rs
      cases r1
      obtain ⟨vs, hv, rr⟩ := vw.lst hm
      exact call_len_seq pins s σ H _ us Q I rv ⟨_, _, rfl, .inl (SqL.of hv), cl _ m _ H h (.refl m H) vw (by rw [← rr.length]; exact Fz.int _)⟩
    · exact h.elim
  · exact h.elim

/-! ### any, all -/
def boolsOf : List PyData → Option (List Bool)
  | [] => some []
  | .bool b :: xs => (boolsOf xs).map (b :: ·)
  | _ :: _ => none
theorem boolsOf_some : ∀ {xs : List PyData} {bs : List Bool}, boolsOf xs = some bs → xs = bs.map .bool
  | [], _, e => by cases e; rfl
  | .bool b :: xs, _, e => by
    simp only [boolsOf, Option.map_eq_some_iff] at e
    obtain ⟨bs, e1, rfl⟩ := e
    rw [boolsOf_some e1]; rfl
  | .none :: _, _, e => by cases e
  | .int _ :: _, _, e => by cases e
  | .str _ :: _, _, e => by cases e
  | .list _ :: _, _, e => by cases e
  | .tuple _ :: _, _, e => by cases e
  | .dict _ :: _, _, e => by cases e
theorem boolsOf_map : ∀ bs : List Bool, boolsOf (bs.map .bool) = some bs
  | [] => rfl
  | b :: bs => by simp [boolsOf, boolsOf_map bs]
def rBools (g : List Bool → Bool) : DR := fun ws m Q => match ws with
  | [.d (.list xs)] => (match boolsOf xs with | some bs => Q (.d (.bool (g bs))) m | none => False)
  | _ => False
theorem dc_bools {f : Value} {g : List Bool → Bool} (h0 : CallR X f fun vs H Q => ∃ (a : Addr) (bs : List Bool), vs = [V.ref a] ∧ SqL X.K H a (bs.map V.bl) ∧ Q (.bl (g bs)) H) : DCall X f (rBools g) := by
  intro pins s σ H xs us Q I rv h
  obtain ⟨ws, m, Q', rs, vw, h, cl⟩ := h
  unfold rBools at h
  split at h
  · split at h
    · rename_i bs hb
      obtain ⟨v, rfl, r1⟩ := rws1 rs
      cases r1 with
      | lst h1 z ha =>
        rw [boolsOf_some hb] at ha
        have e := FzA.bls ha
        subst e
        exact h0 pins s σ H _ us Q I rv ⟨_, bs, rfl, h1.sq, cl _ m _ H h (.refl m H) vw (Fz.bl _)⟩
    · exact h.elim
  · exact h.elim
abbrev rAny : DR := rBools fun bs => bs.any id
abbrev rAll : DR := rBools fun bs => bs.all id
theorem dc_any (hc : X.calm = true) : DCall X (.builtin "any") rAny := dc_bools (cr_any hc)
theorem dc_all (hc : X.calm = true) : DCall X (.builtin "all") rAll := dc_bools (cr_all hc)

/-! ### tuple(x), list(x) -/
def rTuple : DR := fun ws m Q => match ws with
  | [w] => (match peek m w with | some (.list xs) => Q (.d (.tuple xs)) m | some (.tuple xs) => Q (.d (.tuple xs)) m | _ => False)
  | _ => False
theorem dc_tuple : DCall X (.type "tuple") rTuple := by
  intro pins s σ H xs us Q I rv h
  obtain ⟨ws, m, Q', rs, vw, h, cl⟩ := h
  unfold rTuple at h
  split at h
  · split at h
    · rename_i xs hp
      obtain ⟨v, rfl, r1⟩ := rws1 rs
      obtain ⟨a, vs, rfl, hL, ha⟩ := (vw.peek r1 hp).list
      obtain ⟨u, rfl, rx⟩ := vals1 rv
      cases rx
      obtain ⟨hz, its, n, r', e⟩ := Inv.obj I hL
      have hlen := r'.length
      refine call_tuple_list (⟨_, e, rfl, _, rfl⟩ : s.heap.IsList a its.toArray) (fun h' kp => ?_) (by simp only [List.size_toArray] <;> omega)
      have I1 : Inv X pins σ H { s with heap := h' } := I.kept (t' := s.toks) kp
      exact Inv.newT (t' := s.toks) I1 r' hz ha vw h cl
    · rename_i xs hp
      obtain ⟨v, rfl, r1⟩ := rws1 rs
      obtain ⟨a, vs, rfl, hT, ha, hz⟩ := (vw.peek r1 hp).tup
      obtain ⟨u, rfl, rx⟩ := vals1 rv
      cases rx
      obtain ⟨its, r', pl, _⟩ := I.tuple hT.sq
      exact call_tuple_same pl (eW I vw cl (w := .d (.tuple xs)) (Fz.tup hT hz ha) rfl h)
    · exact h.elim
  · exact h.elim
def rList : DR := fun ws m Q => match ws with
  | [w] => (match peek m w with | some (.list xs) => Q (.d (.list xs)) m | some (.tuple xs) => Q (.d (.list xs)) m | _ => False)
  | _ => False
def rListM : DR := fun ws m Q => match ws with
  | [w] => (match peek m w with | some (.list xs) => ∀ a, m a = none → Q (.v (.ref a)) (mset m a (.lst (xs.map W.d))) | some (.tuple xs) => ∀ a, m a = none → Q (.v (.ref a)) (mset m a (.lst (xs.map W.d))) | _ => False)
  | _ => False
theorem list_core {pins : List (Addr × Obj)} {s : Shared} {σ : L2.St} {H : Hp} {Q : VK} {m : MM} {w : W} {v : V} {u : Value} {xs : List PyData} (I : Inv X pins σ H s) (vw : View X.K m H) (r1 : RW X.K H w v) (rv : RelV v u)
    (hp : peek m w = some (.list xs) ∨ peek m w = some (.tuple xs))
    (fin : ∀ (vs : List V) (its : List Value) (h' : Heap) (c' : Nat), vs.length ≤ sizeLine → Vals vs its → FzA X.K H vs xs → (∀ b o', s.heap.get? b = some o' → h'.get? b = some o') →
      h'.get? s.heap.objs.size = some { cls := .type "list", dict := none, data := .seq its.toArray c', slots := #[] } → EP X pins σ Q (.ref s.heap.objs.size) { s with heap := h' }) :
    wpAny (model X.prog X.w) X.A (call (.type "list") [u]) (EP X pins σ Q) X.xe s := by
  rcases hp with hp | hp
  · obtain ⟨a, vs, rfl, hL, ha⟩ := (vw.peek r1 hp).list
    cases rv
    obtain ⟨hz, its, n, r', e⟩ := Inv.obj I hL
    have hlen := r'.length
    exact call_list_seq a (.inl rfl) e rfl rfl (fun h' c' kp e => fin vs its h' c' hz r' ha kp e) (by simp only [List.size_toArray] <;> omega)
  · obtain ⟨a, vs, rfl, hT, ha, hz⟩ := (vw.peek r1 hp).tup
    cases rv
    obtain ⟨its, r', ⟨o, ho, hc, n, hd⟩, _⟩ := I.tuple hT.sq
    have hlen := r'.length
    exact call_list_seq a (.inr rfl) ho hc hd (fun h' c' kp e => fin vs its h' c' hz r' ha kp e) (by simp only [List.size_toArray] <;> omega)
theorem dc_list : DCall X (.type "list") rList := by
  intro pins s σ H xs us Q I rv h
  obtain ⟨ws, m, Q', rs, vw, h, cl⟩ := h
  have core : ∀ {w : W} {xs : List PyData}, ws = [w] → (peek m w = some (.list xs) ∨ peek m w = some (.tuple xs)) → Q' (.d (.list xs)) m → wpAny (model X.prog X.w) X.A (call (.type "list") us) (EP X pins σ Q) X.xe s := by
    intro w xs e hp hq
    subst e
    obtain ⟨v, rfl, r1⟩ := rws1 rs
    obtain ⟨u, rfl, rx⟩ := vals1 rv
    refine list_core I vw r1 rx hp fun vs its h' c' hz r' ha kp e => ?_
    have nf : H s.heap.objs.size = none := I.hok.fresh (Nat.le_refl _)
    have I1 : Inv X pins σ (upd H s.heap.objs.size (.lst vs)) { s with heap := h' } := I.laid (t' := s.toks) kp (Nat.le_refl _) (show ObjOk X.prog X.w _ h' _ (.lst vs) from ⟨hz, its, c', r', e⟩)
    obtain ⟨_, o, I2⟩ := Inv.frz I1 (a := s.heap.objs.size) upd_same
    rw [upd_upd] at I2
    have x : Ext H (upd H s.heap.objs.size (.frz o (.lst vs))) := .new nf
    exact ⟨.ref _, _, I2, rfl, cl (.d (.list xs)) m _ _ hq (.new nf) (vw.grow nf) (Fz.lst (.inl ⟨o, upd_same⟩) hz (ha.ext x))⟩
  unfold rList at h
  split at h
  · split at h
    · rename_i hp; exact core rfl (.inl hp) h
    · rename_i hp; exact core rfl (.inr hp) h
    · exact h.elim
  · exact h.elim
theorem dc_listM : DCall X (.type "list") rListM := by
  intro pins s σ H xs us Q I rv h
  obtain ⟨ws, m, Q', rs, vw, h, cl⟩ := h
  have core : ∀ {w : W} {xs : List PyData}, ws = [w] → (peek m w = some (.list xs) ∨ peek m w = some (.tuple xs)) → (∀ a, m a = none → Q' (.v (.ref a)) (mset m a (.lst (xs.map W.d)))) → wpAny (model X.prog X.w) X.A (call (.type "list") us) (EP X pins σ Q) X.xe s := by
    intro w xs e hp hq
    subst e
    obtain ⟨v, rfl, r1⟩ := rws1 rs
    obtain ⟨u, rfl, rx⟩ := vals1 rv
    refine list_core I vw r1 rx hp fun vs its h' c' hz r' ha kp e => ?_
    have nf : H s.heap.objs.size = none := I.hok.fresh (Nat.le_refl _)
    have x : Ext H (upd H s.heap.objs.size (.lst vs)) := .new nf
    exact ⟨.ref _, _, I.laid (t' := s.toks) kp (Nat.le_refl _) (show ObjOk X.prog X.w _ h' _ (.lst vs) from ⟨hz, its, c', r', e⟩), rfl, cl _ _ _ _ (hq _ (vw.free nf)) (.newM nf) (vw.new nf (.lst (RWs.of_data (ha.ext x)))) rfl⟩
  unfold rListM at h
  split at h
  · split at h
    · rename_i hp; exact core rfl (.inl hp) h
    · rename_i hp; exact core rfl (.inr hp) h
    · exact h.elim
  · exact h.elim

/-! ### sorted -/
def sortD (xs : List PyData) : List PyData := xs.mergeSort (PySem.W.dataLe false id)
def neTup : PyData → Bool
  | .tuple (_ :: _) => true
  | _ => false
def noTup : PyData → Bool
  | .tuple _ => false
  | .none => false
  | _ => true
def sortOk (xs : List PyData) : Bool := xs.all (fun a => xs.all fun b => PySem.W.alike a b) && (xs.all neTup || xs.all noTup) && xs.all (fun a => decide (a.depth ≤ 64))
theorem sorted_seq {prog : Program} {w : World} {A : Around} {E : Value → Shared → Prop} {s : Shared} {it : Addr} {T : String} {o : Obj} {items : Array Value} {n : Nat} {ds : List PyData} {R : Value → PyData → Prop} {Q : Value → Shared → Prop}
    (hT : T = "list" ∨ T = "tuple") (ho : s.heap.get? it = some o) (hc : o.cls = .type T) (hd : o.data = .seq items n) (hL : items.size ≤ sizeLine)
    (e : PySem.W.EachIs R items.toList ds) (er : PySem.W.EachIs (fun v b => ∃ as, Reads s.heap v b as) items.toList ds) (hal : PySem.W.AllAlike ds) (hk : PySem.W.Sortable ds) (hu : ∀ d, d ∈ ds → A.units + 2 + d.depth < cLine)
    (h : ∀ (h1 : Heap) (out : List Value) (h' : Heap) (c : Nat), (∀ b o', s.heap.get? b = some o' → h1.get? b = some o') → (∀ b o', h1.get? b = some o' → h'.get? b = some o') → h'.get? h1.objs.size = some (seqObj "list" (List.toArray out) c) → out.length = items.size → PySem.W.EachIs R out (sortD ds) → Q (.ref h1.objs.size) { s with heap := h' }) :
    wpAny (model prog w) A (call (.builtin "sorted") [.ref it]) Q E s := by
  refine call_function_entry_kw kind_sorted plain_sorted entry_sorted (args_sorted1 _) ?_
  unfold Builtin.«sorted»
  refine wpAny_bind (m := checkCount "sorted" 1 1 _) (wpAny_pure ?_)
  refine wpAny_bind (wpAny_collect_seq it hT ho hc hd (fun h1 k1 => ?_) hL)
  have hL' : items.toList.length ≤ sizeLine := by simpa using hL
  refine wpAny_bind (wpAny_newList ?_ hL')
  have hat : (h1.push (seqObj "list" items.toList.toArray 0)).get? h1.objs.size = some (seqObj "list" items.toList.toArray 0) := Heap.get?_push_size _ rfl
  show wpAny _ _ _ _ _ { s with heap := h1.push (seqObj "list" items.toList.toArray 0) }
  have k2 : ∀ b o', h1.get? b = some o' → (h1.push (seqObj "list" items.toList.toArray 0)).get? b = some o' := fun b o' q => Heap.get?_push_of_some _ q
  have k3 : ∀ b o', s.heap.get? b = some o' → (PySem.W.sortingHeap (h1.push (seqObj "list" items.toList.toArray 0)) h1.objs.size items.toList).get? b = some o' := fun b o' q =>
    PySem.W.sortingHeap_old (Nat.ne_of_lt (Heap.lt_size (k1 b o' q))) (k2 b o' (k1 b o' q))
  have er' : PySem.W.EachIs (fun v b => ∃ as, Reads (PySem.W.sortingHeap (h1.push (seqObj "list" items.toList.toArray 0)) h1.objs.size items.toList) v b as) items.toList ds := er.mono fun _ _ ⟨as, r⟩ => ⟨as, PyProof.Rows.Reads.keeps k3 r⟩
  refine wpAny_bind (wpAny_holding (wpAny_call_entry_kw slot_list_sort ⟨_, hat, rfl⟩ entry_list_sort ?body (args_list_sort _)))
  case body =>
    refine PySem.W.list_sort_vals (κ := PySem.W.dataKind _ ds) (s := { s with heap := h1.push (seqObj "list" items.toList.toArray 0) }) hat (PySem.W.SortsAt.data (s := { s with heap := PySem.W.sortingHeap (h1.push (seqObj "list" items.toList.toArray 0)) h1.objs.size items.toList }) er' hal hk (fun d hd => ?_)) hL' ?_
    · exact hu d hd
    · refine ⟨_, rfl, wpAny_pure ⟨_, rfl, ?_⟩⟩
      obtain ⟨c, hc2⟩ := sortedHeap_at (vs := items.toList) (out := (PySem.W.sortVals (PySem.W.dataKind (PySem.W.sortingHeap (h1.push (seqObj "list" items.toList.toArray 0)) h1.objs.size items.toList) ds) false items.toList items.toList).toArray) hat
      refine h h1 _ _ c k1 (fun b o' q => ?_) hc2 ?_ ?_
      · have hb := Heap.lt_size q
        refine (sortedHeap_old (Nat.ne_of_lt hb) ?_).trans (k2 b o' q)
        rw [PyProof.Rows.size_push']
        exact Nat.lt_succ_of_lt hb
      · rw [PySem.W.sortVals_length false rfl]
        simp
      · have q := PySem.W.sortVals_data (h' := PySem.W.sortingHeap (h1.push (seqObj "list" items.toList.toArray 0)) h1.objs.size items.toList) (R := R) (enc := id) (bs := ds) false e er' (by simpa using hal)
        simpa [sortD] using q
def rSorted : DR := fun ws m Q => match ws with
  | [w] => (match peek m w with | some (.list xs) => sortOk xs = true ∧ Q (.d (.list (sortD xs))) m | some (.tuple xs) => sortOk xs = true ∧ Q (.d (.list (sortD xs))) m | _ => False)
  | _ => False
/-- the same, a list that may be changed -/
def rSortedM : DR := fun ws m Q => match ws with
  | [w] => (match peek m w with | some (.list xs) => sortOk xs = true ∧ ∀ a, m a = none → Q (.v (.ref a)) (mset m a (.lst ((sortD xs).map W.d))) | some (.tuple xs) => sortOk xs = true ∧ ∀ a, m a = none → Q (.v (.ref a)) (mset m a (.lst ((sortD xs).map W.d))) | _ => False)
  | _ => False
theorem each_fz {K : PySem.W.Frag} {H : Hp} : ∀ {us : List Value} {vs : List V} {ds : List PyData}, Vals vs us → FzA K H vs ds → PySem.W.EachIs (fun u d => ∃ v, RelV v u ∧ Fz K H v d) us ds
  | _, _, _, .nil, .nil => .nil
  | _, _, _, .cons r t, .cons h k => .cons ⟨_, r, h⟩ (each_fz t k)
theorem fz_each {K : PySem.W.Frag} {H : Hp} : ∀ {us : List Value} {ds : List PyData}, PySem.W.EachIs (fun u d => ∃ v, RelV v u ∧ Fz K H v d) us ds → ∃ vs, Vals vs us ∧ FzA K H vs ds
  | _, _, .nil => ⟨[], .nil, .nil⟩
  | _, _, .cons ⟨v, r, h⟩ t => by
    obtain ⟨vs, a, b⟩ := fz_each t
    exact ⟨v :: vs, .cons r a, .cons h b⟩
theorem readsAll_each' {h : Heap} : ∀ {us : List Value} {ds : List PyData} {as : List Addr}, ReadsAll h us ds as → PySem.W.EachIs (fun v b => ∃ as, Reads h v b as) us ds
  | _, _, _, .nil => .nil
  | _, _, _, .cons r t => .cons ⟨_, r⟩ (readsAll_each' t)
theorem sortOk_of {xs : List PyData} (h : sortOk xs = true) : PySem.W.AllAlike xs ∧ PySem.W.Sortable xs ∧ ∀ d, d ∈ xs → d.depth ≤ 64 := by
  simp only [sortOk, Bool.and_eq_true, List.all_eq_true, Bool.or_eq_true, decide_eq_true_eq] at h
  refine ⟨fun d hd d' hd' => h.1.1 d hd d' hd', ?_, h.2⟩
  rcases h.1.2 with k | k
  · refine .inl fun d hd => ?_
    have := k d hd
    unfold neTup at this
    split at this
    · exact ⟨_, _, rfl⟩
    · cases this
  · refine .inr fun d hd => ?_
    have := k d hd
    unfold noTup at this
    split at this
    · cases this
    · cases this
    · rename_i n1 n2
      exact ⟨fun z => n2 z, fun xs z => n1 xs z⟩
theorem sorted_core {pins : List (Addr × Obj)} {s : Shared} {σ : L2.St} {H : Hp} {Q : VK} {m : MM} {w : W} {v : V} {u : Value} {xs : List PyData} (hu : X.A.units + 150 < cLine) (I : Inv X pins σ H s) (vw : View X.K m H) (r1 : RW X.K H w v) (rv : RelV v u)
    (hp : peek m w = some (.list xs) ∨ peek m w = some (.tuple xs)) (ok : sortOk xs = true)
    (fin : ∀ (H' : Hp) (s' : Shared) (p : Addr) (vs : List V), Inv X pins σ H' s' → Ext H H' → View X.K m H' → H p = none → H' = upd H p (.lst vs) → H' p = some (.lst vs) → FzA X.K H' vs (sortD xs) → EP X pins σ Q (.ref p) s') :
    wpAny (model X.prog X.w) X.A (call (.builtin "sorted") [u]) (EP X pins σ Q) X.xe s := by
  obtain ⟨hal, hk, hd⟩ := sortOk_of ok
  obtain ⟨a, T, o, its, n, vs, rfl, hT, ho, hc, hdt, rv', ha, hz⟩ : ∃ (a : Addr) (T : String) (o : Obj) (its : Array Value) (n : Nat) (vs : List V), u = .ref a ∧ (T = "list" ∨ T = "tuple") ∧ s.heap.get? a = some o ∧ o.cls = .type T ∧ o.data = .seq its n ∧ Vals vs its.toList ∧ FzA X.K H vs xs ∧ vs.length ≤ sizeLine := by
    rcases hp with hp | hp
    · obtain ⟨a, vs, rfl, hL, ha⟩ := (vw.peek r1 hp).list
      cases rv
      obtain ⟨hz, its, n, r', e⟩ := Inv.obj I hL
      exact ⟨a, "list", _, its.toArray, n, vs, rfl, .inl rfl, e, rfl, rfl, by simpa using r', ha, hz⟩
    · obtain ⟨a, vs, rfl, hT, ha, hz⟩ := (vw.peek r1 hp).tup
      cases rv
      obtain ⟨its, r', ⟨o, ho, hc, n, hd⟩, _⟩ := I.tuple hT.sq
      exact ⟨a, "tuple", o, its.toArray, n, vs, rfl, .inr rfl, ho, hc, hd, by simpa using r', ha, hz⟩
  have hlen := rv'.length
  have hz2 : its.size ≤ sizeLine := by rw [← Array.length_toList, ← hlen]; exact hz
  obtain ⟨as, hr, _⟩ := FzA.reads I ha rv'
  refine sorted_seq hT ho hc hdt hz2 (R := fun u d => ∃ v, RelV v u ∧ Fz X.K H v d) (each_fz rv' ha) (readsAll_each' hr) hal hk (fun d q => by have := hd d q; omega) fun h1 out h' c k1 k2 hp' hlo eo => ?_
  obtain ⟨ws, rw', hf⟩ := fz_each eo
  have I1 : Inv X pins σ H { s with heap := h1 } := I.kept (t' := s.toks) k1
  have nf : H h1.objs.size = none := I1.hok.fresh (Nat.le_refl _)
  have hwl := rw'.length
  have I2 : Inv X pins σ (upd H h1.objs.size (.lst ws)) { s with heap := h' } := I1.laid (t' := s.toks) k2 (Nat.le_refl _) (show ObjOk X.prog X.w _ h' _ (.lst ws) from ⟨by rw [hwl, hlo]; exact hz2, out, c, rw', hp'⟩)
  have x : Ext H (upd H h1.objs.size (.lst ws)) := .new nf
  exact fin _ _ _ ws I2 x (vw.grow nf) nf rfl upd_same (hf.ext x)
theorem dc_sorted (hu : X.A.units + 150 < cLine) : DCall X (.builtin "sorted") rSorted := by
  intro pins s σ H xs us Q I rv h
  obtain ⟨ws, m, Q', rs, vw, h, cl⟩ := h
  have core : ∀ {w : W} {xs : List PyData}, ws = [w] → (peek m w = some (.list xs) ∨ peek m w = some (.tuple xs)) → sortOk xs = true ∧ Q' (.d (.list (sortD xs))) m → wpAny (model X.prog X.w) X.A (call (.builtin "sorted") us) (EP X pins σ Q) X.xe s := by
    intro w xs e hp hq
    subst e
    obtain ⟨v, rfl, r1⟩ := rws1 rs
    obtain ⟨u, rfl, rx⟩ := vals1 rv
    refine sorted_core hu I vw r1 rx hp hq.1 fun H' s' p vs I' x vw' hn he hH ha => ?_
    obtain ⟨z, o, I2⟩ := Inv.frz I' hH
    have x2 : Ext H' (upd H' p (.frz o (.lst vs))) := .lst hH
    have vw2 : View X.K m (upd H' p (.frz o (.lst vs))) := by
      rw [he, upd_upd]
      exact vw.grow hn
    exact ⟨.ref p, _, I2, rfl, cl (.d (.list (sortD xs))) m _ _ hq.2 (by rw [he, upd_upd]; exact .new hn) vw2 (Fz.lst (.inl ⟨o, upd_same⟩) z (ha.ext x2))⟩
  unfold rSorted at h
  split at h
  · split at h
    · rename_i hp; exact core rfl (.inl hp) h
    · rename_i hp; exact core rfl (.inr hp) h
    · exact h.elim
  · exact h.elim
theorem dc_sortedM (hu : X.A.units + 150 < cLine) : DCall X (.builtin "sorted") rSortedM := by
  intro pins s σ H xs us Q I rv h
  obtain ⟨ws, m, Q', rs, vw, h, cl⟩ := h
  have core : ∀ {w : W} {xs : List PyData}, ws = [w] → (peek m w = some (.list xs) ∨ peek m w = some (.tuple xs)) → (sortOk xs = true ∧ ∀ a, m a = none → Q' (.v (.ref a)) (mset m a (.lst ((sortD xs).map W.d)))) → wpAny (model X.prog X.w) X.A (call (.builtin "sorted") us) (EP X pins σ Q) X.xe s := by
    intro w xs e hp hq
    subst e
    obtain ⟨v, rfl, r1⟩ := rws1 rs
    obtain ⟨u, rfl, rx⟩ := vals1 rv
    refine sorted_core hu I vw r1 rx hp hq.1 fun H' s' p vs I' x vw' hn he hH ha => ?_
    subst he
    exact ⟨.ref p, _, I', rfl, cl _ _ _ _ (hq.2 p (vw.free hn)) (.newM hn) (vw.new hn (.lst (RWs.of_data ha))) rfl⟩
  unfold rSortedM at h
  split at h
  · split at h
    · rename_i hp; exact core rfl (.inl hp) h
    · rename_i hp; exact core rfl (.inr hp) h
    · exact h.elim
  · exact h.elim

/-! ### max, min of two ints; int -/
def rInt2 (g : Int → Int → Int) : DR := fun ws m Q => match ws with
  | [.d (.int i), .d (.int j)] => Q (.d (.int (g i j))) m
  | _ => False
theorem dc_int2 {f : Value} {g : Int → Int → Int} (h0 : CallR X f fun xs H Q => ∃ i j, xs = [.int i, .int j] ∧ Q (.int (g i j)) H) : DCall X f (rInt2 g) := by
  intro pins s σ H xs us Q I rv h
  obtain ⟨ws, m, Q', rs, vw, h, cl⟩ := h
  unfold rInt2 at h
  split at h
  · obtain ⟨v, v2, rfl, r1, r2⟩ := rws2 rs
    cases r1
    cases r2
    exact h0 pins s σ H _ us Q I rv ⟨_, _, rfl, cl _ m _ H h (.refl m H) vw (Fz.int _)⟩
  · exact h.elim
abbrev rMax2 : DR := rInt2 fun i j => if j > i then j else i
abbrev rMin2 : DR := rInt2 fun i j => if j < i then j else i
theorem dc_max2 (hc : X.calm = true) : DCall X (.builtin "max") rMax2 := dc_int2 (call_max2 hc)
theorem dc_min2 (hc : X.calm = true) : DCall X (.builtin "min") rMin2 := dc_int2 (call_min2 hc)
def rToInt : DR := fun ws m Q => match ws with
  | [.d (.int i)] => Q (.d (.int i)) m
  | [.d (.bool b)] => Q (.d (.int (if b then 1 else 0))) m
  | _ => False
theorem dc_int : DCall X (.type "int") rToInt := by
  intro pins s σ H xs us Q I rv h
  obtain ⟨ws, m, Q', rs, vw, h, cl⟩ := h
  unfold rToInt at h
  split at h
  · obtain ⟨v, rfl, r1⟩ := rws1 rs
    cases r1
    exact call_int1 pins s σ H _ us Q I rv (.inl ⟨_, rfl, cl _ m _ H h (.refl m H) vw (Fz.int _)⟩)
  · obtain ⟨v, rfl, r1⟩ := rws1 rs
    cases r1
    exact call_int1 pins s σ H _ us Q I rv (.inr ⟨_, rfl, cl _ m _ H h (.refl m H) vw (Fz.int _)⟩)
  · exact h.elim

/-! ### repr -/
structure ReprOk (d : PyData) : Prop where
  showable : d.showable = true
  depth : d.depth ≤ 64
  dict : d.hasDict = true → noLst d = true
  len : d.shown.length ≤ 16777216
def rRepr : DR := fun ws m Q => match ws with
  | [w] => (match peek m w with | some d => ReprOk d ∧ Q (.d (.str d.shown)) m | none => False)
  | _ => False
theorem dc_repr (hu : X.A.units + 150 < cLine) (hg : X.A.guards = some []) : DCall X (.builtin "repr") rRepr := by
  intro pins s σ H xs us Q I rv h
  obtain ⟨ws, m, Q', rs, vw, h, cl⟩ := h
  unfold rRepr at h
  split at h
  · split at h
    · rename_i d hp
      obtain ⟨v, rfl, r1⟩ := rws1 rs
      obtain ⟨u, rfl, rx⟩ := vals1 rv
      obtain ⟨as, rd, hs⟩ := Pk.reads I (vw.peek r1 hp) rx
      obtain ⟨ok, q⟩ := h
      have hz := le24 ok.len
      have big : ∀ {a : Addr} (r : Reads s.heap (.ref a) d as), wpAny (model X.prog X.w) X.A (call (.builtin "repr") [.ref a]) (EP X pins σ Q) X.xe s := fun r =>
        repr_of_reads' r ok.showable (fun z => hs (ok.dict z)) hg (by have := ok.depth; omega) (fun _ _ e => e) (fun h' u tk k => eStr (I.kept (t' := tk) k) vw cl q) hz
      cases rd with
      | none => exact PySem.P.repr_of_none (eStr (I.tok _) vw cl (by simpa [PyData.shown] using q))
      | bool b => exact PySem.P.repr_of_bool (eStr (I.tok _) vw cl (by simpa [PyData.shown] using q))
      | int i t => exact PySem.P.repr_of_int (by simpa [PyData.showable] using ok.showable) (eStr (I.tok _) vw cl (by simpa [PyData.shown] using q))
      | str x t => exact PySem.P.repr_of_str (eStr (I.tok _) vw cl (by simpa [PyData.shown] using q)) (by simpa [PyData.shown] using hz)
      | list h1 h2 h3 h4 => exact big (.list h1 h2 h3 h4)
      | tuple h1 h2 h3 h4 => exact big (.tuple h1 h2 h3 h4)
      | dict h1 h2 h3 h4 h5 => exact big (.dict h1 h2 h3 h4 h5)
    · exact h.elim
  · exact h.elim
end
end DL
end
section
set_option maxHeartbeats 1000000
namespace DL
open PySem PySem.Spec L2
open PyProof.Rows hiding St

/-! ### targets -/
abbrev DTG := W → DS → MM → (DS → MM → Prop) → Prop
abbrev DTGs := List W → DS → MM → (DS → MM → Prop) → Prop
def lG (K : PySem.W.Frag) (g : DTG) : TG := fun v σ H Q => ∃ w σ' m Q', RW K H w v ∧ RS K H σ' σ ∧ View K m H ∧ g w σ' m Q' ∧ ClS K m H Q' Q
def lGs (K : PySem.W.Frag) (g : DTGs) : TGs := fun vs σ H Q => ∃ ws σ' m Q', RWs K H ws vs ∧ RS K H σ' σ ∧ View K m H ∧ g ws σ' m Q' ∧ ClS K m H Q' Q
abbrev DG (X : Cx) (target : Expr) (g : DTG) : Prop := PG X target (lG X.K g)
abbrev DGs (X : Cx) (targets : List Expr) (g : DTGs) : Prop := PGs X targets (lGs X.K g)
theorem PG.mono {X : Cx} {e : Expr} {t t' : TG} (h : PG X e t) (k : ∀ v σ H Q, t' v σ H Q → t v σ H Q) : PG X e t' := ⟨fun pins s σ H v u Q I r q => h.run pins s σ H v u Q I r (k v σ H Q q)⟩
theorem PGs.mono {X : Cx} {e : List Expr} {t t' : TGs} (h : PGs X e t) (k : ∀ v σ H Q, t' v σ H Q → t v σ H Q) : PGs X e t' := ⟨fun pins s σ H v u Q I r q => h.run pins s σ H v u Q I r (k v σ H Q q)⟩
def dgName (i : Nat) : DTG := fun w σ m Q => Q (σ.set i (some w)) m
def dgNil : DTGs := fun ws σ m Q => match ws with | [] => Q σ m | _ => False
def dgCons (g : DTG) (gs : DTGs) : DTGs := fun ws σ m Q => match ws with | w :: r => g w σ m fun σ' m' => gs r σ' m' Q | [] => False
def dgTup (n : Nat) (gs : DTGs) : DTG := fun w σ m Q => match w with
  | .d (.tuple xs) => xs.length = n ∧ gs (xs.map W.d) σ m Q
  | .p xs => xs.length = n ∧ gs (xs.map W.d) σ m Q
  | _ => False
section
variable {X : Cx}
theorem dg_name {i : Nat} {x : Str} {pos : Pos} (hN : X.N.Nodup) (hi : X.N[i]? = some x) (hx : Loc X.env.scope x) (hf : X.fn x = true ∨ X.env.scope.names.lookup x = some .local := by first | exact .inl rfl | exact .inr rfl | assumption) : DG X (.Name x pos) (dgName i) :=
  PG.mono (pg_name hN hi hx hf) fun v σ H Q ⟨w, σ', m, Q', rw, rs, vw, h, cl⟩ => cl _ m _ H h (.refl m H) vw (rs.set i rw)
theorem dgs_nil : DGs X [] dgNil := PGs.mono pgs_nil fun v σ H Q ⟨ws, σ', m, Q', rw, rs, vw, h, cl⟩ => by
  unfold dgNil at h
  split at h
  · cases rw; exact ⟨rfl, cl _ m _ H h (.refl m H) vw rs⟩
  · exact h.elim
theorem dgs_cons {e : Expr} {es : List Expr} {g : DTG} {gs : DTGs} (h1 : DG X e g) (h2 : DGs X es gs) (hs : (assignEach (e :: es) X.env).map (·.2) = assign e X.env :: (assignEach es X.env).map (·.2) := by rfl) : DGs X (e :: es) (dgCons g gs) := PGs.mono (pgs_cons h1 h2 hs) fun v σ H Q ⟨ws, σ', m, Q', rw, rs, vw, h, cl⟩ => by
  unfold dgCons at h
  split at h
  · cases rw with
    | cons r t => exact ⟨_, _, rfl, _, σ', m, _, r, rs, vw, h, fun σ1 m1 σ2 H2 q e1 vw1 rs1 => ⟨_, σ1, m1, Q', t.ext e1.ext, rs1, vw1, q, cl.ext e1⟩⟩
  · exact h.elim
theorem dg_tup {es : List Expr} {k : Nat} {gs : DTGs} {n : Nat} {pos : Pos} (hc : X.calm = true) (h : DGs X es gs) (hn : (assignEach es X.env).length = n := by rfl) (hst : (assignEach es X.env).findIdx? (·.1) = none := by rfl) : DG X (.Tuple es k pos) (dgTup n gs) := by
  refine PG.mono (pg_tup (n := n) hc h hn hst) fun v σ H Q ⟨w, σ', m, Q', rw, rs, vw, h, cl⟩ => ?_
  unfold dgTup at h
  split at h
  · cases rw with
    | tup q z ha => exact ⟨_, _, rfl, q.sq, by rw [ha.length]; exact h.1, _, σ', m, Q', RWs.of_data ha, rs, vw, h.2, cl⟩
  · obtain ⟨a, xs, rfl, q, ha⟩ := rw
    exact ⟨_, _, rfl, q, by rw [ha.length]; exact h.1, _, σ', m, Q', RWs.of_data ha, rs, vw, h.2, cl⟩
  · exact h.elim

/-! ### statements -/
variable {st : Stmt} {rest : List Stmt} {t u : DTS} {e : Expr} {te : DTE} {pos : Pos}
def dNext : DTS := fun D σ m => D.nx σ m
def dSeq (t u : DTS) : DTS := fun D σ m => t { D with nx := u D } σ m
def dNever : DTS := fun _ _ _ => False
def dRet (t : DTE) : DTS := fun D σ m => t σ m D.rt
def dRetN : DTS := fun D _ m => D.rt (.d .none) m
def dExp (t : DTE) : DTS := fun D σ m => t σ m fun _ m1 => D.nx σ m1
def dIfS (c : DTT) (t u : DTS) : DTS := fun D σ m => c σ m fun b m1 => if b = true then t D σ m1 else u D σ m1
def dAsg (t : DTE) (g : DTG) : DTS := fun D σ m => t σ m fun w m1 => g w σ m1 D.nx
def dBrk : DTS := fun D σ m => D.bk σ m
def dCnt : DTS := fun D σ m => D.ct σ m
theorem dss_nil : DSs X [] dNext := PSs.mono pss_nil fun D σ H ⟨σ', m, D', rs, vw, h, cl⟩ => cl.nx _ m _ H h (.refl m H) vw rs
theorem lS_seq {K : PySem.W.Frag} {t u : DTS} : ∀ D σ H, lS K (dSeq t u) D σ H → tSeq (lS K t) (lS K u) D σ H := fun D σ H ⟨σ', m, D', rs, vw, h, cl⟩ =>
  ⟨σ', m, _, rs, vw, h, ⟨fun σ1 m1 σ2 H2 q e1 vw1 rs1 => ⟨σ1, m1, D', rs1, vw1, q, cl.ext e1⟩, cl.rt, cl.bk, cl.ct⟩⟩
theorem dss_cons (h1 : DSt X st t) (h2 : DSs X rest u) : DSs X (st :: rest) (dSeq t u) := PSs.mono (pss_cons h1 h2) lS_seq
theorem dss_one (h1 : DSt X st t) : DSs X [st] t := pss_one h1
theorem dst_never : DSt X st dNever := PS.mono ps_never fun D σ H ⟨σ', m, D', rs, vw, h, cl⟩ => h
theorem dss_never {sts : List Stmt} : DSs X sts dNever := PSs.mono pss_never fun D σ H ⟨σ', m, D', rs, vw, h, cl⟩ => h
theorem dst_pass : DSt X (.Pass pos) dNext := PS.mono ps_pass fun D σ H ⟨σ', m, D', rs, vw, h, cl⟩ => cl.nx _ m _ H h (.refl m H) vw rs
theorem dst_break : DSt X (.Break pos) dBrk := PS.mono ps_break fun D σ H ⟨σ', m, D', rs, vw, h, cl⟩ => cl.bk _ m _ H h (.refl m H) vw rs
theorem dst_continue : DSt X (.Continue pos) dCnt := PS.mono ps_continue fun D σ H ⟨σ', m, D', rs, vw, h, cl⟩ => cl.ct _ m _ H h (.refl m H) vw rs
theorem dst_doc {x j pos pos'} : DSt X (.Expr (.Constant (.str x) j pos) pos') dNext := PS.mono ps_doc fun D σ H ⟨σ', m, D', rs, vw, h, cl⟩ => cl.nx _ m _ H h (.refl m H) vw rs
theorem dst_expr (he : DE X e te) (hs : swapsWith e none pos.line X.env = pure false := by rfl) : DSt X (.Expr e pos) (dExp te) := PS.mono (ps_expr he hs) fun D σ H ⟨σ', m, D', rs, vw, h, cl⟩ =>
  ⟨σ', m, _, rs, vw, h, fun w m1 v H1 q e1 vw1 _ => cl.nx _ m1 _ H1 q e1 vw1 (rs.ext e1.ext)⟩
theorem dst_ret (he : DE X e te) : DSt X (.Return (some e) pos) (dRet te) := PS.mono (ps_ret he) fun D σ H ⟨σ', m, D', rs, vw, h, cl⟩ => ⟨σ', m, _, rs, vw, h, cl.rt⟩
theorem dst_retN : DSt X (.Return none pos) dRetN := PS.mono ps_retN fun D σ H ⟨σ', m, D', rs, vw, h, cl⟩ => cl.rt _ m _ H h (.refl m H) vw .non
theorem dst_if {c : Expr} {a b : List Stmt} {tc : DTT} (hc : DT X c tc) (ha : DSs X a t) (hb : DSs X b u) : DSt X (.If c a b pos) (dIfS tc t u) := PS.mono (ps_if hc ha hb) fun D σ H ⟨σ', m, D', rs, vw, h, cl⟩ =>
  ⟨σ', m, _, rs, vw, h, fun k m1 H1 q e1 vw1 => by
    cases k with
    | true => rw [if_pos rfl] at q ⊢; exact ⟨σ', m1, D', rs.ext e1.ext, vw1, q, cl.ext e1⟩
    | false => rw [if_neg Bool.false_ne_true] at q ⊢; exact ⟨σ', m1, D', rs.ext e1.ext, vw1, q, cl.ext e1⟩⟩
theorem lS_asg {K : PySem.W.Frag} {te : DTE} {g : DTG} : ∀ D σ H, lS K (dAsg te g) D σ H → tAsg (lE K te) (lG K g) D σ H := fun D σ H ⟨σ', m, D', rs, vw, h, cl⟩ =>
  ⟨σ', m, _, rs, vw, h, fun w m1 v H1 q e1 vw1 rw1 => ⟨w, σ', m1, D'.nx, rw1, rs.ext e1.ext, vw1, q, cl.nx.ext e1⟩⟩
theorem dst_asg {tg : Expr} {g : DTG} (he : DE X e te) (hg : DG X tg g) (hs : swapsWithSole [tg] e pos.line X.env = pure false := by rfl) (hw : swappedStores [tg] e X.env = pure none := by rfl)
    (h1 : (assignEach [tg] X.env).map (·.2) = [assign tg X.env] := by rfl) : DSt X (.Assign [tg] e pos) (dAsg te g) :=
  PS.mono (ps_asg he hg hs hw h1) lS_asg
theorem dst_set {i : Nat} {x : Str} {pos' : Pos} (hN : X.N.Nodup) (hi : X.N[i]? = some x) (hx : Loc X.env.scope x) (he : DE X e te) (hs : swapsWith e (some (.Name x pos')) pos.line X.env = pure false := by rfl)
    (hf : X.fn x = true ∨ X.env.scope.names.lookup x = some .local := by first | exact .inl rfl | exact .inr rfl | assumption) : DSt X (.Assign [.Name x pos'] e pos) (dAsg te (dgName i)) :=
  PS.mono (ps_set hN hi hx he hs hf) fun D σ H ⟨σ', m, D', rs, vw, h, cl⟩ => ⟨σ', m, _, rs, vw, h, fun w m1 v H1 q e1 vw1 rw1 => cl.nx _ m1 _ H1 q e1 vw1 ((rs.ext e1.ext).set i rw1)⟩

/-! ### xs[i] = v -/
def dSetIx (to ti te : DTE) : DTS := fun D σ m => te σ m fun w m0 => to σ m0 fun o m1 => ti σ m1 fun i m2 => match o, i with
  | .v (.ref a), .d (.int k) => (match m2 a with
    | some (.lst ws) => (match ixN ws.length k with | some j => D.nx σ (mset m2 a (.lst (ws.set j w))) | none => False)
    | _ => False)
  | _, _ => False
theorem dst_setIx {o i : Expr} {to ti : DTE} {tpos : Pos} (he : DE X e te)
    (hsub : PG X (.Subscript o i tpos) (gSub (lE X.K to) (lE X.K ti) rSetL)) (hs : swapsWithSole [.Subscript o i tpos] e pos.line X.env = pure false := by rfl) (hw : swappedStores [.Subscript o i tpos] e X.env = pure none := by rfl) :
    DSt X (.Assign [.Subscript o i tpos] e pos) (dSetIx to ti te) := PS.mono (ps_asg he hsub hs hw) fun D σ H ⟨σ', m, D', rs, vw, h, cl⟩ =>
  ⟨σ', m, _, rs, vw, h, fun w m0 v H0 q e0 vw0 rw0 => ⟨σ', m0, _, rs.ext e0.ext, vw0, q, fun wo m1 vo H1 q1 e1 vw1 rw1 => ⟨σ', m1, _, (rs.ext e0.ext).ext e1.ext, vw1, q1, fun wi m2 vi H2 q2 e2 vw2 rw2 => by
    split at q2
    · rename_i a k
      split at q2
      · rename_i ws hm
        split at q2
        · rename_i j hj
          cases rw1
          cases rw2
          obtain ⟨vs, hv, rr⟩ := vw2.lst hm
          refine ⟨a, vs, k, j, rfl, rfl, hv, by rw [← rr.length]; exact hj, ?_⟩
          have x : Ext H2 (upd H2 a (.lst (vs.set j v))) := .lst hv
          exact cl.nx _ _ _ _ q2 ((e0.trans (e1.trans e2)).trans (.put x hm)) (vw2.put x (.lst (RWs.ext x (rr.set (rw0.ext (e1.trans e2).ext) j)))) (((rs.ext e0.ext).ext (e1.trans e2).ext).ext x)
        · exact q2.elim
      · exact q2.elim
    · exact q2.elim⟩⟩⟩

/-! ### what is walked -/
structure DWalkG (K : PySem.W.Frag) (J : It) (items : List W) (G : Hp → Prop) (Y : Nat → Hp → V → Hp → Prop) : Prop where
  walk : Walk J items.length G Y
  keep : ∀ H H', G H → Ext H H' → G H'
  yld : ∀ i H x H', G H → Y i H x H' → Same H H' ∧ Ext H H' ∧ ∃ w, items[i]? = some w ∧ RW K H' w x
def DWalk (K : PySem.W.Frag) (J : It) (items : List W) (H : Hp) : Prop := items.length ≤ sizeLine ∧ ∃ G Y, DWalkG K J items G Y ∧ G H
abbrev DTI := DS → MM → (List W → MM → Prop) → Prop
def lI (K : PySem.W.Frag) (ti : DTI) : TI := fun σ H R => ∃ σ' m R', RS K H σ' σ ∧ View K m H ∧ ti σ' m R' ∧ ∀ items m1 H1 J, R' items m1 → Step m H m1 H1 → View K m1 H1 → DWalk K J items H1 → R J H1
abbrev DI (X : Cx) (tg e : Expr) (ti : DTI) : Prop := PI X tg e (lI X.K ti)
theorem View.same {K : PySem.W.Frag} {m : MM} {H H' : Hp} (h : View K m H) (s : Same H H') (x : Ext H H') : View K m H' := fun a o e => by
  obtain ⟨u, q, r⟩ := h a o e
  exact ⟨u, s _ _ q, r.ext x⟩
theorem dwalk_list {K : PySem.W.Frag} {H : Hp} {a : Addr} {xs : List V} {ds : List PyData} (h : FzL K H a xs) (z : xs.length ≤ sizeLine) (ha : FzA K H xs ds) : DWalk K (Itl K a) (ds.map W.d) H := by
  have hl := ha.length
  refine ⟨by simpa [← hl] using z, fun H => FzL K H a xs ∧ FzA K H xs ds, YAt xs, ⟨?_, fun H H' q x => ⟨x.fzl q.1, FzA.ext x q.2⟩, fun i H x H' q y => ?_⟩, h, ha⟩
  · have w := walk_list (K := K) (a := a) (xs := xs)
    rw [List.length_map, ← hl]
    exact w.mono (fun H q => q.1.sq) fun i H x H' _ _ y => y
  · obtain ⟨rfl, e⟩ := y
    obtain ⟨d, e1, r⟩ := q.2.getV e
    exact ⟨Same.refl _, .refl _, .d d, by rw [List.getElem?_map, e1]; rfl, r⟩
theorem dwalk_tup {K : PySem.W.Frag} {H : Hp} {a : Addr} {xs : List V} {ds : List PyData} (h : FzT K H a xs) (z : xs.length ≤ sizeLine) (ha : FzA K H xs ds) : DWalk K (Itt K a) (ds.map W.d) H := by
  have hl := ha.length
  refine ⟨by simpa [← hl] using z, fun H => FzT K H a xs ∧ FzA K H xs ds, YAt xs, ⟨?_, fun H H' q x => ⟨x.fzt q.1, FzA.ext x q.2⟩, fun i H x H' q y => ?_⟩, h, ha⟩
  · have w := walk_tup (K := K) (a := a) (xs := xs)
    rw [List.length_map, ← hl]
    exact w.mono (fun H q => q.1.sq) fun i H x H' _ _ y => y
  · obtain ⟨rfl, e⟩ := y
    obtain ⟨d, e1, r⟩ := q.2.getV e
    exact ⟨Same.refl _, .refl _, .d d, by rw [List.getElem?_map, e1]; rfl, r⟩
/-- the data list, or the tuple, that e gives -/
def diSeq (t : DTE) : DTI := fun σ m R => t σ m fun w m1 => match w with
  | .d (.list xs) => R (xs.map W.d) m1
  | .d (.tuple xs) => R (xs.map W.d) m1
  | _ => False
theorem di_seq {tg : Expr} (he : DE X e te) : DI X tg e (diSeq te) := by
  refine ⟨fun pins s σ H R I h => ?_⟩
  obtain ⟨σ', m, R', rs, vw, h, cl⟩ := h
  refine thn (he.run pins s σ H (fun v H1 => ∃ w m1, Step m H m1 H1 ∧ View X.K m1 H1 ∧ RW X.K H1 w v ∧ match w with
    | .d (.list xs) => R' (xs.map W.d) m1
    | .d (.tuple xs) => R' (xs.map W.d) m1
    | _ => False) I ⟨σ', m, _, rs, vw, h, fun w m1 v H1 q e1 vw1 rw1 => ⟨w, m1, e1, vw1, rw1, q⟩⟩) fun v s1 ⟨x, H1, I1, r1, w, m1, e1, vw1, rw1, q1⟩ => ?_
  split at q1
  · rename_i xs
    cases rw1 with
    | @lst a vs _ hL z ha =>
      cases r1
      obtain ⟨its, rv, p, hz⟩ := I1.list hL.sq
      refine wpAny_pyIter_list p.isList ?_
      refine ⟨s1.heap.objs.size, [s1.heap.objs.size], _, _, H1, rfl, I1.kept (t' := s1.toks) fun b o e => Heap.get?_push_of_some _ e, turn_list a _, ⟨_, Heap.get?_push_size _ rfl, rfl, rfl⟩, fun b hb => ?_, cl _ m1 H1 _ q1 e1 vw1 (dwalk_list hL z ha)⟩
      have e : b = s1.heap.objs.size := by simpa using hb
      subst e
      exact I1.fpOk (Nat.le_refl _) (I1.hok.fresh (Nat.le_refl _))
  · rename_i xs
    cases rw1 with
    | @tup a vs _ hT z ha =>
      cases r1
      obtain ⟨its, rv, p, hz⟩ := I1.tuple hT.sq
      refine wpAny_pyIter_tuple (show s1.heap.IsTuple a its.toArray from p) ?_
      refine ⟨s1.heap.objs.size, [s1.heap.objs.size], _, _, H1, rfl, I1.kept (t' := s1.toks) fun b o e => Heap.get?_push_of_some _ e, turn_tuple a _, ⟨_, Heap.get?_push_size _ rfl, rfl, rfl⟩, fun b hb => ?_, cl _ m1 H1 _ q1 e1 vw1 (dwalk_tup hT z ha)⟩
      have e : b = s1.heap.objs.size := by simpa using hb
      subst e
      exact I1.fpOk (Nat.le_refl _) (I1.hok.fresh (Nat.le_refl _))
  · exact q1.elim
/-- range -/
def rangeW (lo : Int) (n : Nat) : List W := (List.range n).map fun i => W.d (.int (lo + (i : Nat)))
theorem dwalk_range {K : PySem.W.Frag} {H : Hp} {lo : Int} {n : Nat} (z : n ≤ 16777216) : DWalk K (Itr lo n) (rangeW lo n) H := by
  refine ⟨by simpa [rangeW] using le24 z, fun _ => True, fun i H x H' => i < n ∧ H' = H ∧ x = .int (lo + i), ⟨?_, fun _ _ _ _ => trivial, fun i H x H' _ y => ?_⟩, trivial⟩
  · have w := walk_range (lo := lo) (n := n)
    refine ⟨fun i H hi h => w.goes i H (by simpa [rangeW] using hi) h, fun H h => by simpa [rangeW] using w.stops H h, fun i H x H' hi h y => ?_⟩
    have hi' : i < n := by simpa [rangeW] using hi
    exact ⟨hi', w.yields i H x H' hi' h y⟩
  · obtain ⟨hi, rfl, rfl⟩ := y
    refine ⟨Same.refl _, .refl _, .d (.int (lo + i)), ?_, .int _⟩
    simp [rangeW, hi]
def diRange1 (t : DTA) : DTI := fun σ m R => t σ m fun ws m1 => match ws with
  | [.d (.int j)] => j ≤ 16777216 ∧ -16777216 ≤ j ∧ R (rangeW 0 j.toNat) m1
  | _ => False
def diRange2 (t : DTA) : DTI := fun σ m R => t σ m fun ws m1 => match ws with
  | [.d (.int i), .d (.int j)] => (-8388608 ≤ i ∧ i ≤ 8388608 ∧ -8388608 ≤ j ∧ j ≤ 8388608) ∧ R (rangeW i (j - i).toNat) m1
  | _ => False
theorem di_range1 {tg a : Expr} {ta : DTA} {p : Pos} (hg : Gl X "range") (hm : X.mg "range" = none) (ha : DA X [a] ta) (hs : starEach [a] X.env = [(false, eval a X.env)] := by rfl) : DI X tg (.Call (.Name "range" p) [a] [] pos) (diRange1 ta) :=
  ⟨fun pins s σ H R I ⟨σ', m, R', rs, vw, h, cl⟩ => (pi_range1 hg hm ha hs).run pins s σ H R I ⟨σ', m, _, rs, vw, h, fun ws m1 vs H1 q e1 vw1 rw1 => by
    split at q
    · rename_i j
      obtain ⟨v, rfl, r1⟩ := rws1 rw1
      cases r1
      exact ⟨j, rfl, by omega, by omega, cl _ m1 H1 _ q.2.2 e1 vw1 (dwalk_range (by omega))⟩
    · exact q.elim⟩⟩
theorem di_range2 {tg a b : Expr} {ta : DTA} {p : Pos} (hg : Gl X "range") (hm : X.mg "range" = none) (ha : DA X [a, b] ta) (hs : starEach [a, b] X.env = [(false, eval a X.env), (false, eval b X.env)] := by rfl) (hs2 : starEach [b] X.env = [(false, eval b X.env)] := by rfl) :
    DI X tg (.Call (.Name "range" p) [a, b] [] pos) (diRange2 ta) :=
  ⟨fun pins s σ H R I ⟨σ', m, R', rs, vw, h, cl⟩ => (pi_range2 hg hm ha hs hs2).run pins s σ H R I ⟨σ', m, _, rs, vw, h, fun ws m1 vs H1 q e1 vw1 rw1 => by
    split at q
    · rename_i i j
      obtain ⟨v, v2, rfl, r1, r2⟩ := rws2 rw1
      cases r1
      cases r2
      exact ⟨i, j, rfl, ⟨by omega, by omega, by omega, by omega⟩, cl _ m1 H1 _ q.2 e1 vw1 (dwalk_range (by omega))⟩
    · exact q.elim⟩⟩

/-! ### for -/
def forW (g : DTG) (tb : DTS) (D : DEnds) : List W → DS → MM → Prop
  | [], σ, m => D.nx σ m
  | w :: ws, σ, m => g w σ m fun σ' m' => tb { nx := forW g tb D ws, ct := forW g tb D ws, bk := D.nx, rt := D.rt } σ' m'
def dFor (ti : DTI) (g : DTG) (tb : DTS) : DTS := fun D σ m => ti σ m fun items m1 => forW g tb D items σ m1
theorem Step.same {m : MM} {H H' : Hp} (s : Same H H') (x : Ext H H') : Step m H m H' := ⟨x, fun a o h k => ⟨s a o h, k⟩⟩
theorem dst_for {tg iter : Expr} {body : List Stmt} {ti : DTI} {g : DTG} {tb : DTS} (hp : PassesOwn (model X.prog X.w) X.A X.env X.xe) (hc : X.calm = true) (hi : DI X tg iter ti) (hg : DG X tg g) (hb : DSs X body tb)
    (hs : ∀ x, foldedSetIterable iter X.env x = pure x := by intro _; rfl) : DSt X (.For tg iter body [] pos) (dFor ti g tb) := PS.mono (ps_for hp hc hi hg hb hs) fun D σ H ⟨σ', m, D', rs, vw, h, cl⟩ =>
  ⟨σ', m, _, rs, vw, h, fun items m1 H1 J q e1 vw1 ⟨z, G, Y, dw, hG⟩ => by
    refine for_it dw.walk (fun i σ2 H2 => G H2 ∧ ∃ σ3 m3, Step m1 H1 m3 H2 ∧ RS X.K H2 σ3 σ2 ∧ View X.K m3 H2 ∧ forW g tb D' (items.drop i) σ3 m3) ⟨hG, σ', m1, .refl _ _, rs.ext e1.ext, vw1, q⟩ (fun i σ H _ p => p.1) (fun i x σ2 H2 H3 hi p y => ?_) (fun σ2 H2 p => ?_)
    · obtain ⟨hG2, σ3, m3, x2, rs3, vw3, q3⟩ := p
      obtain ⟨sm, ex, w, ew, rw⟩ := dw.yld i H2 x H3 hG2 y
      have hd : items.drop i = w :: items.drop (i + 1) := by
        rw [List.drop_eq_getElem_cons hi]
        rw [List.getElem?_eq_getElem hi] at ew
        cases ew
        rfl
      rw [hd] at q3
      have hn : ClS X.K m3 H3 (forW g tb D' (items.drop (i + 1))) (fun σ2 H2 => G H2 ∧ ∃ σ3 m3, Step m1 H1 m3 H2 ∧ RS X.K H2 σ3 σ2 ∧ View X.K m3 H2 ∧ forW g tb D' (items.drop (i + 1)) σ3 m3) := fun σ4 m4 σ5 H5 q4 e4 vw4 rs4 =>
        ⟨dw.keep _ _ hG2 (ex.trans e4.ext), σ4, m4, x2.trans (.trans (.same sm ex) e4), rs4, vw4, q4⟩
      have hs1 : Step m H m3 H3 := e1.trans (x2.trans (.same sm ex))
      exact ⟨w, σ3, m3, _, rw, rs3.ext ex, vw3.same sm ex, q3, fun σ4 m4 σ5 H5 q4 e4 vw4 rs4 => ⟨σ4, m4, _, rs4, vw4, q4, ⟨hn.ext e4, cl.rt.ext (hs1.trans e4), cl.nx.ext (hs1.trans e4), hn.ext e4⟩⟩⟩
    · obtain ⟨hG2, σ3, m3, x2, rs3, vw3, q3⟩ := p
      rw [List.drop_length] at q3
      exact cl.nx _ m3 _ H2 q3 (e1.trans x2) vw3 rs3⟩

/-! ### while -/
def whileW (c : DTT) (tb : DTS) (D : DEnds) : Nat → DS → MM → Prop
  | 0, _, _ => False
  | n + 1, σ, m => c σ m fun b m1 => if b = true then tb { nx := whileW c tb D n, ct := whileW c tb D n, bk := D.nx, rt := D.rt } σ m1 else D.nx σ m1
def dWhile (c : DTT) (tb : DTS) : DTS := fun D σ m => ∃ n, whileW c tb D n σ m
theorem dst_while {c : Expr} {body : List Stmt} {tc : DTT} {tb : DTS} (hp : PassesOwn (model X.prog X.w) X.A X.env X.xe) (hc : DT X c tc) (hb : DSs X body tb) : DSt X (.While c body [] pos) (dWhile tc tb) := PS.mono (ps_while hp hc hb) fun D σ H ⟨σ', m, D', rs, vw, ⟨n, h⟩, cl⟩ => by
  refine ⟨fun n σ2 H2 => ∃ σ3 m3, Step m H m3 H2 ∧ RS X.K H2 σ3 σ2 ∧ View X.K m3 H2 ∧ whileW tc tb D' n σ3 m3, ⟨n, σ', m, .refl _ _, rs, vw, h⟩, fun n σ2 H2 p => ?_⟩
  obtain ⟨σ3, m3, x2, rs3, vw3, q3⟩ := p
  cases n with
  | zero => exact False.elim q3
  | succ n =>
    refine ⟨σ3, m3, _, rs3, vw3, q3, fun b m4 H4 q4 e4 vw4 => ?_⟩
    cases b with
    | true =>
      rw [if_pos rfl] at q4 ⊢
      have hn : ClS X.K m4 H4 (whileW tc tb D' n) (fun σ2 H2 => ∃ σ3 m3, Step m H m3 H2 ∧ RS X.K H2 σ3 σ2 ∧ View X.K m3 H2 ∧ whileW tc tb D' n σ3 m3) := fun σ4 m5 σ5 H5 q4 e5 vw4 rs4 => ⟨σ4, m5, x2.trans (e4.trans e5), rs4, vw4, q4⟩
      exact ⟨_, fun σ5 H5 p5 => ⟨n, Nat.lt_succ_self n, p5⟩, σ3, m4, _, rs3.ext e4.ext, vw4, q4, ⟨hn, cl.rt.ext (x2.trans e4), cl.nx.ext (x2.trans e4), hn⟩⟩
    | false =>
      rw [if_neg Bool.false_ne_true] at q4 ⊢
      exact cl.nx _ m4 _ H4 q4 (x2.trans e4) vw4 (rs3.ext e4.ext)

/-! ### comprehensions -/
def wipeD (σ : DS) : List Nat → DS
  | [] => σ
  | v :: vs => (wipeD σ vs).set v none
theorem RS.wipe {K : PySem.W.Frag} {H : Hp} {σ' : DS} {σ : L2.St} (h : RS K H σ' σ) : ∀ vs : List Nat, RS K H (wipeD σ' vs) (L2.wipe σ vs)
  | [] => h
  | v :: vs => by
    have ih := RS.wipe h vs
    refine ⟨by simp [wipeD, L2.wipe, ih.1], fun i w e => ?_⟩
    unfold wipeD at e
    unfold L2.wipe
    by_cases hi : v = i
    · subst hi
      have hl : v < (wipeD σ' vs).length := by
        have := (List.getElem?_eq_some_iff.mp e).1
        simpa using this
      rw [List.getElem?_set_self hl] at e
      cases e
    · rw [List.getElem?_set_ne hi] at e ⊢
      exact ih.2 i w e
theorem wipe_in {σ : L2.St} {i : Nat} : ∀ {vs : List Nat}, i ∈ vs → (L2.wipe σ vs)[i]? = if i < σ.length then some none else none
  | v :: vs, h => by
    unfold L2.wipe
    by_cases hi : v = i
    · subst hi
      rw [List.getElem?_set]
      simp [L2.wipe_length]
    · rw [List.getElem?_set_ne hi]
      exact wipe_in ((List.mem_cons.mp h).resolve_left (Ne.symm hi))
theorem wipe_ext {σ τ : L2.St} {vs : List Nat} (hl : σ.length = τ.length) (h : ∀ i, i ∉ vs → σ[i]? = τ[i]?) : L2.wipe σ vs = L2.wipe τ vs := by
  refine List.ext_getElem? fun i => ?_
  by_cases hi : i ∈ vs
  · rw [wipe_in hi, wipe_in hi, hl]
  · rw [L2.wipe_out hi, L2.wipe_out hi, h i hi]
theorem wipe_set {σ : L2.St} {i : Nat} {x : Option V} {vs : List Nat} (h : i ∈ vs) : L2.wipe (σ.set i x) vs = L2.wipe σ vs :=
  wipe_ext (List.length_set ..) fun j hj => List.getElem?_set_ne fun e => hj (by rw [← e]; exact h)
theorem wipe_idem {σ : L2.St} (vs : List Nat) : L2.wipe (L2.wipe σ vs) vs = L2.wipe σ vs := wipe_ext (L2.wipe_length ..) fun j hj => L2.wipe_out hj
/-- the tests, the element, the next item -/
def compW (g : DTG) (tt : DTT) (te : DTE) (σ : DS) : List W → List PyData → MM → (List PyData → MM → Prop) → Prop
  | [], acc, m, Q => Q acc m
  | w :: ws, acc, m, Q => g w σ m fun σ' m' => tt σ' m' fun b m2 => if b = true then te σ' m2 fun y m3 => (match y with | .d y => compW g tt te σ ws (acc ++ [y]) m3 Q | _ => False) else compW g tt te σ ws acc m2 Q
def dComp (ti : DTI) (g : DTG) (tt : DTT) (te : DTE) (vs : List Nat) : DTE := fun σ m Q => ti σ m fun items m1 => compW g tt te (wipeD σ vs) items [] m1 fun acc m2 => Q (.d (.list acc)) m2
/-- .. a list that may change -/
def dCompM (ti : DTI) (g : DTG) (tt : DTT) (te : DTE) (vs : List Nat) : DTE := fun σ m Q => ti σ m fun items m1 => compW g tt te (wipeD σ vs) items [] m1 fun acc m2 => ∀ a, m2 a = none → Q (.v (.ref a)) (mset m2 a (.lst (acc.map W.d)))
/-- a target that stores into the slots vs alone -/
structure GIn (K : PySem.W.Frag) (vs : List Nat) (gV : TG) (g : DTG) : Prop where
  run : ∀ (w : W) (x : V) (σ : L2.St) (H : Hp) (σ' : DS) (m : MM) (Q' : DS → MM → Prop) (R : L2.St → Hp → Prop), RW K H w x → RS K H σ' σ → g w σ' m Q' → (∀ σ2 σ1, L2.wipe σ2 vs = L2.wipe σ vs → RS K H σ1 σ2 → Q' σ1 m → R σ2 H) → gV x σ H R
theorem gin_name {K : PySem.W.Frag} {vs : List Nat} {i : Nat} (h : i ∈ vs) : GIn K vs (gName i) (dgName i) := by
  refine ⟨fun w x σ H σ' m Q' R rw rs h1 k => ?_⟩
  have h1' : Q' (σ'.set i (some w)) m := h1
  have e : L2.wipe (σ.set i (some x)) vs = L2.wipe σ vs := wipe_set h
  have r2 : RS K H (σ'.set i (some w)) (σ.set i (some x)) := rs.set i rw
  show R (σ.set i (some x)) H
  exact k (σ.set i (some x)) (σ'.set i (some w)) e r2 h1'
theorem two_of {α : Type} {l : List α} (h : l.length = 2) : ∃ a b, l = [a, b] := by
  match l, h with
  | [a, b], _ => exact ⟨a, b, rfl⟩
theorem fza_two {K : PySem.W.Frag} {H : Hp} {xs : List V} {a b : PyData} (h : FzA K H xs [a, b]) : ∃ x y, xs = [x, y] ∧ Fz K H x a ∧ Fz K H y b := by
  cases h with
  | cons h1 t =>
    cases t with
    | cons h2 t2 =>
      cases t2
      exact ⟨_, _, rfl, h1, h2⟩
theorem tup_rw {K : PySem.W.Frag} {H : Hp} {w : W} {x : V} {n : Nat} {gs : DTGs} {σ' : DS} {m : MM} {Q' : DS → MM → Prop} (rw : RW K H w x) (h1 : dgTup n gs w σ' m Q') :
    ∃ a xs ys, x = .ref a ∧ SqT K H a xs ∧ FzA K H xs ys ∧ ys.length = n ∧ gs (ys.map W.d) σ' m Q' := by
  unfold dgTup at h1
  split at h1
  · cases rw with
    | tup q z ha => exact ⟨_, _, _, rfl, q.sq, ha, h1.1, h1.2⟩
  · obtain ⟨a, xs, rfl, q, ha⟩ := rw
    exact ⟨_, _, _, rfl, q, ha, h1.1, h1.2⟩
  · exact h1.elim
theorem gin_two {K : PySem.W.Frag} {vs : List Nat} {i j : Nat} (h : i ∈ vs) (h' : j ∈ vs) : GIn K vs (gTup K 2 (gCons (gName i) (gCons (gName j) gNil))) (dgTup 2 (dgCons (dgName i) (dgCons (dgName j) dgNil))) := by
  refine ⟨fun w x σ H σ' m Q' R rw rs h1 k => ?_⟩
  obtain ⟨a, xs, ys, hx, q, ha, hl, h2⟩ := tup_rw rw h1
  obtain ⟨y1, y2, hy⟩ := two_of hl
  subst hy
  obtain ⟨x1, x2, hxs, r1, r2⟩ := fza_two ha
  subst hxs
  subst hx
  have h2' : Q' ((σ'.set i (some (.d y1))).set j (some (.d y2))) m := h2
  have e : L2.wipe ((σ.set i (some x1)).set j (some x2)) vs = L2.wipe σ vs := (wipe_set h').trans (wipe_set h)
  have r3 : RS K H ((σ'.set i (some (.d y1))).set j (some (.d y2))) ((σ.set i (some x1)).set j (some x2)) := (rs.set i (w := .d y1) r1).set j (w := .d y2) r2
  exact ⟨a, [x1, x2], rfl, q, rfl, x1, [x2], rfl, x2, [], rfl, rfl, k _ _ e r3 h2'⟩
abbrev DTs (X : Cx) (ifs : List Expr) (t : DTT) : Prop := PTs X ifs (lT X.K t)
def dYes : DTT := fun _ m Q => Q true m
theorem PTs.mono {ifs : List Expr} {t t' : TT} (h : PTs X ifs t) (k : ∀ σ H Q, t' σ H Q → t σ H Q) : PTs X ifs t' := ⟨fun pins s σ H Q I q => h.run pins s σ H Q I (k σ H Q q)⟩
theorem dts_nil : DTs X [] dYes := PTs.mono pts_nil fun σ H Q ⟨σ', m, Q', rs, vw, h, cl⟩ => cl _ m H h (.refl m H) vw
theorem dts_one {c : Expr} {t : DTT} (h : DT X c t) : DTs X [c] t := pts_one h
theorem Step.poke {m m' : MM} {H H' : Hp} {D : Addr} {o : HO} (s : Step m H m' H') (n : ∀ u, H D = some u → m D = none → False) (e : Ext H' (upd H' D o)) : Step m H m' (upd H' D o) := ⟨s.ext.trans e, fun a u h k => by
  obtain ⟨p, q⟩ := s.fr a u h k
  have : a ≠ D := fun z => by subst z; exact n u h k
  exact ⟨by rw [upd_ne this]; exact p, q⟩⟩
theorem View.poke {K : PySem.W.Frag} {m : MM} {H : Hp} {D : Addr} {o : HO} (h : View K m H) (n : m D = none) (e : Ext H (upd H D o)) : View K m (upd H D o) := fun a u q => by
  obtain ⟨x, p, r⟩ := h a u q
  have : a ≠ D := fun z => by subst z; rw [n] at q; cases q
  exact ⟨x, by rw [upd_ne this]; exact p, r.ext e⟩
theorem tLc_of {K : PySem.W.Frag} {ti : DTI} {gV : TG} {g : DTG} {tt : DTT} {te : DTE} {vs : List Nat} (hg : GIn K vs gV g) {σ : L2.St} {H : Hp} {Q : VK} {σ' : DS} {m : MM} {Qf : List PyData → MM → Prop} (rs : RS K H σ' σ) (vw : View K m H)
    (h : ti σ' m fun items m1 => compW g tt te (wipeD σ' vs) items [] m1 Qf)
    (cl : ∀ acc m2 D ys H2, Qf acc m2 → Step m H m2 H2 → (∀ u, H D = some u → m D = none → False) → View K m2 H2 → m2 D = none → H2 D = some (.lst ys) → FzA K H2 ys acc → Q (.ref D) H2) : tLc (lI K ti) gV (lT K tt) (lE K te) vs σ H Q :=
  ⟨σ', m, _, rs, vw, h, fun items m1 H1 J q e1 vw1 ⟨z, G, Y, dw, hG⟩ D hD => by
    refine lc_it dw.walk (fun i H2 => G H2 ∧ ∃ m3 acc ys, Step m1 H1 m3 H2 ∧ View K m3 H2 ∧ m3 D = none ∧ H2 D = some (.lst ys) ∧ FzA K H2 ys acc ∧ acc.length ≤ i ∧ compW g tt te (wipeD σ' vs) (items.drop i) acc m3 Qf) ⟨dw.keep _ _ hG (.new hD), m1, [], [], .new hD, vw1.grow hD, vw1.free hD, upd_same, .nil, Nat.le_refl _, q⟩ (fun i H _ p => p.1) (fun i x H2 H3 hi p y => ?_) (fun H2 p => ?_)
    · obtain ⟨hG2, m3, acc, ys, x2, vw3, nD, hys, ha, hl, q3⟩ := p
      obtain ⟨sm, ex, w, ew, rw⟩ := dw.yld i H2 x H3 hG2 y
      have hd : items.drop i = w :: items.drop (i + 1) := by
        rw [List.drop_eq_getElem_cons hi]
        rw [List.getElem?_eq_getElem hi] at ew
        cases ew
        rfl
      rw [hd] at q3
      have hal := ha.length
      have st3 : Step m1 H1 m3 H3 := x2.trans (.same sm ex)
      refine hg.run w x (L2.wipe σ vs) H3 (wipeD σ' vs) m3 _ _ rw ((rs.ext (e1.trans st3).ext).wipe vs) q3 fun σ2 σ1 ew2 rs2 q4 => ⟨ew2.trans (wipe_idem vs), σ1, m3, _, rs2, vw3.same sm ex, q4, fun b m4 H4 q5 e4 vw4 => ?_⟩
      have st4 := st3.trans e4
      cases b with
      | true =>
        simp only [↓reduceIte] at q5 ⊢
        refine ⟨σ1, m4, _, rs2.ext e4.ext, vw4, q5, fun w5 m5 v5 H5 q6 e5 vw5 rw5 => ?_⟩
        obtain ⟨d4, n4⟩ := e4.fr D _ (sm _ _ hys) nD
        obtain ⟨d5, n5⟩ := e5.fr D _ d4 n4
        split at q6
        · rename_i y5
          refine ⟨ys, d5, Nat.lt_of_lt_of_le (Nat.lt_of_le_of_lt (by omega) hi) z, ?_⟩
          have x5 : Ext H5 (upd H5 D (.lst (ys ++ [v5]))) := .lst d5
          have st5 := st4.trans e5
          exact ⟨dw.keep _ _ hG2 (ex.trans ((e4.trans e5).ext.trans x5)), m5, acc ++ [y5], ys ++ [v5], st5.poke (fun u q _ => by rw [hD] at q; cases q) x5, vw5.poke n5 x5, n5, upd_same,
            FzA.append (FzA.ext (ex.trans ((e4.trans e5).ext.trans x5)) ha) (.cons (Fz.ext x5 rw5) .nil), by simp; omega, q6⟩
        · exact q6.elim
      | false =>
        simp only [Bool.false_eq_true, ↓reduceIte] at q5 ⊢
        obtain ⟨d4, n4⟩ := e4.fr D _ (sm _ _ hys) nD
        exact ⟨dw.keep _ _ hG2 (ex.trans e4.ext), m4, acc, ys, st4, vw4, n4, d4, FzA.ext (ex.trans e4.ext) ha, by omega, q5⟩
    · obtain ⟨hG2, m3, acc, ys, x2, vw3, nD, hys, ha, hl, q3⟩ := p
      rw [List.drop_length] at q3
      exact cl acc m3 D ys H2 q3 (e1.trans x2) (fun u q k => by
        obtain ⟨p, _⟩ := e1.fr D u q k
        rw [hD] at p
        cases p) vw3 nD hys ha⟩
end
end DL
end
section
set_option maxHeartbeats 1000000
namespace DL
open PySem PySem.Spec L2
open PyProof.Rows hiding St

/-! ### comprehensions as expressions, as assignments -/
section
variable {X : Cx} {elt tg iter : Expr} {ifs : List Expr} {scope : Scope} {own : List (Str × Nat)} {pos : Pos} {ti : DTI} {gV : TG} {g : DTG} {tt : DTT} {te : DTE}
theorem comp_frz {K : PySem.W.Frag} {ti : DTI} {gV : TG} {g : DTG} {tt : DTT} {te : DTE} {vs : List Nat} (hg : GIn K vs gV g) : ∀ σ H Q, lE K (dComp ti g tt te vs) σ H Q → tFrz (tLc (lI K ti) gV (lT K tt) (lE K te) vs) σ H Q := fun σ H Q ⟨σ', m, Q', rs, vw, h, cl⟩ =>
  tLc_of hg rs vw h fun acc m2 D ys H2 q e2 hn vw2 nD hys ha => ⟨D, ys, rfl, hys, fun o z => by
    have x : Ext H2 (upd H2 D (.frz o (.lst ys))) := .lst hys
    exact cl _ m2 _ _ q (e2.poke hn x) (vw2.poke nD x) (Fz.lst (.inl ⟨o, upd_same⟩) z (FzA.ext x ha))⟩
theorem de_comp (hc : X.calm = true) (hN : X.N.Nodup) (hi : DI X tg iter ti) (ok : BlkOk X.N X.env.scope scope own) (hgi : GIn X.K (own.map (·.2)) gV g)
    (hg : ∀ (s : Shared) (H : Hp) (C : Addr) (cl : List (Str × Addr)) (fp : List Addr), PG (X.blk s H scope (compEnvC scope cl C X.env) fp) tg gV) (ht : ∀ (s : Shared) (H : Hp) (C : Addr) (cl : List (Str × Addr)) (fp : List Addr), DTs (X.blk s H scope (compEnvC scope cl C X.env) fp) ifs tt)
    (he : ∀ (s : Shared) (H : Hp) (C : Addr) (cl : List (Str × Addr)) (fp : List Addr), DE (X.blk s H scope (compEnvC scope cl C X.env) fp) elt te) (hs : ∀ x, foldedSetIterable iter X.env x = pure x := by intro _; rfl) :
    DE X (.ListComp elt [⟨tg, iter, ifs, 0⟩] scope pos) (dComp ti g tt te (own.map (·.2))) := de_of (pe_frz (pe_lc hc hN hi ok hg ht he hs)) (comp_frz hgi)
theorem comp_mut {K : PySem.W.Frag} {ti : DTI} {gV : TG} {g : DTG} {tt : DTT} {te : DTE} {vs : List Nat} (hg : GIn K vs gV g) : ∀ σ H Q, lE K (dCompM ti g tt te vs) σ H Q → tLc (lI K ti) gV (lT K tt) (lE K te) vs σ H Q := fun σ H Q ⟨σ', m, Q', rs, vw, h, cl⟩ =>
  tLc_of hg rs vw h fun acc m2 D ys H2 q e2 hn vw2 nD hys ha => by
    have hv : View K (mset m2 D (.lst (acc.map W.d))) H2 := fun b y e => by
      by_cases hb : b = D
      · subst hb
        rw [mset_same] at e; cases e
        exact ⟨_, hys, .lst (RWs.of_data ha)⟩
      · rw [mset_ne hb] at e
        exact vw2 b y e
    refine cl _ _ _ _ (q D nD) ⟨e2.ext, fun a o h k => ?_⟩ hv rfl
    obtain ⟨p1, p2⟩ := e2.fr a o h k
    have : a ≠ D := fun z => by subst z; exact hn o h k
    exact ⟨p1, by rw [mset_ne this]; exact p2⟩
theorem de_compM (hc : X.calm = true) (hN : X.N.Nodup) (hi : DI X tg iter ti) (ok : BlkOk X.N X.env.scope scope own) (hgi : GIn X.K (own.map (·.2)) gV g)
    (hg : ∀ (s : Shared) (H : Hp) (C : Addr) (cl : List (Str × Addr)) (fp : List Addr), PG (X.blk s H scope (compEnvC scope cl C X.env) fp) tg gV) (ht : ∀ (s : Shared) (H : Hp) (C : Addr) (cl : List (Str × Addr)) (fp : List Addr), DTs (X.blk s H scope (compEnvC scope cl C X.env) fp) ifs tt)
    (he : ∀ (s : Shared) (H : Hp) (C : Addr) (cl : List (Str × Addr)) (fp : List Addr), DE (X.blk s H scope (compEnvC scope cl C X.env) fp) elt te) (hs : ∀ x, foldedSetIterable iter X.env x = pure x := by intro _; rfl) :
    DE X (.ListComp elt [⟨tg, iter, ifs, 0⟩] scope pos) (dCompM ti g tt te (own.map (·.2))) := de_of (pe_lc hc hN hi ok hg ht he hs) (comp_mut hgi)
/-- the list that a statement stored at slot i is data from now on -/
def tFrzS (t : TS) : TS := fun D σ H => t { D with nx := fun σ1 H1 => ∃ a xs, H1 a = some (.lst xs) ∧ ∀ o, xs.length ≤ sizeLine → D.nx σ1 (upd H1 a (.frz o (.lst xs))) } σ H
theorem ps_frz {st : Stmt} {t : TS} (h : PS X st t) : PS X st (tFrzS t) := ⟨fun pins s σ H D I q => by
  refine thn (h.run pins s σ H _ I q) fun f s1 h1 => ?_
  cases f with
  | next =>
    obtain ⟨σ1, H1, I1, a, xs, hH, q1⟩ := h1
    obtain ⟨z, o, I2⟩ := Inv.frz I1 hH
    exact ⟨σ1, _, I2, q1 o z⟩
  | brk => exact h1
  | cont => exact h1
  | ret u => exact h1⟩
/-- y = [..], the name a plain local; data from now on -/
theorem dst_setComp {i : Nat} {y : Str} {py spos : Pos} (hc : X.calm = true) (hN : X.N.Nodup) (hy : X.N[i]? = some y) (hyl : X.env.scope.names.lookup y = some .local)
    (hsw : swapsWith (.ListComp elt [⟨tg, iter, ifs, 0⟩] scope pos) (some (.Name y py)) spos.line X.env = pure true) (hi : DI X tg iter ti) (ok : BlkOk X.N X.env.scope scope own) (hgi : GIn X.K (own.map (·.2)) gV g)
    (hg : ∀ (s : Shared) (H : Hp) (C : Addr) (cl : List (Str × Addr)) (fp : List Addr), PG (X.blk s H scope (compEnvC scope cl C X.env) fp) tg gV) (ht : ∀ (s : Shared) (H : Hp) (C : Addr) (cl : List (Str × Addr)) (fp : List Addr), DTs (X.blk s H scope (compEnvC scope cl C X.env) fp) ifs tt)
    (he : ∀ (s : Shared) (H : Hp) (C : Addr) (cl : List (Str × Addr)) (fp : List Addr), DE (X.blk s H scope (compEnvC scope cl C X.env) fp) elt te) (hs : ∀ x, foldedSetIterable iter X.env x = pure x := by intro _; rfl) :
    DSt X (.Assign [.Name y py] (.ListComp elt [⟨tg, iter, ifs, 0⟩] scope pos) spos) (dAsg (dComp ti g tt te (own.map (·.2))) (dgName i)) := by
  refine PS.mono (ps_frz (ps_setLc (te := lE X.K te) (tt := lT X.K tt) hc hN hy hyl hsw hi ok hg ht he hs)) fun D σ H ⟨σ', m, D', rs, vw, h, cl⟩ => ?_
  show tLc (lI X.K ti) gV (lT X.K tt) (lE X.K te) (own.map (·.2)) σ H (fun x H1 => gName i x σ H1 (fun σ1 H1 => ∃ a xs, H1 a = some (.lst xs) ∧ ∀ o, xs.length ≤ sizeLine → D.nx σ1 (upd H1 a (.frz o (.lst xs)))))
  refine tLc_of (Qf := fun acc m2 => D'.nx (σ'.set i (some (.d (.list acc)))) m2) hgi rs vw h fun acc m2 L ys H2 q e2 hn vw2 nD hys ha => ?_
  refine ⟨L, ys, hys, fun o z => ?_⟩
  have x : Ext H2 (upd H2 L (.frz o (.lst ys))) := .lst hys
  have r1 : RW X.K (upd H2 L (.frz o (.lst ys))) (.d (.list acc)) (.ref L) := Fz.lst (.inl ⟨o, upd_same⟩) z (FzA.ext x ha)
  exact cl.nx _ m2 _ _ q (e2.poke hn x) (vw2.poke nD x) ((rs.ext (e2.poke hn x).ext).set i r1)
/-- .. a list that may change -/
theorem dst_setCompM {i : Nat} {y : Str} {py spos : Pos} (hc : X.calm = true) (hN : X.N.Nodup) (hy : X.N[i]? = some y) (hyl : X.env.scope.names.lookup y = some .local)
    (hsw : swapsWith (.ListComp elt [⟨tg, iter, ifs, 0⟩] scope pos) (some (.Name y py)) spos.line X.env = pure true) (hi : DI X tg iter ti) (ok : BlkOk X.N X.env.scope scope own) (hgi : GIn X.K (own.map (·.2)) gV g)
    (hg : ∀ (s : Shared) (H : Hp) (C : Addr) (cl : List (Str × Addr)) (fp : List Addr), PG (X.blk s H scope (compEnvC scope cl C X.env) fp) tg gV) (ht : ∀ (s : Shared) (H : Hp) (C : Addr) (cl : List (Str × Addr)) (fp : List Addr), DTs (X.blk s H scope (compEnvC scope cl C X.env) fp) ifs tt)
    (he : ∀ (s : Shared) (H : Hp) (C : Addr) (cl : List (Str × Addr)) (fp : List Addr), DE (X.blk s H scope (compEnvC scope cl C X.env) fp) elt te) (hs : ∀ x, foldedSetIterable iter X.env x = pure x := by intro _; rfl) :
    DSt X (.Assign [.Name y py] (.ListComp elt [⟨tg, iter, ifs, 0⟩] scope pos) spos) (dAsg (dCompM ti g tt te (own.map (·.2))) (dgName i)) := by
  refine PS.mono (ps_setLc (te := lE X.K te) (tt := lT X.K tt) hc hN hy hyl hsw hi ok hg ht he hs) fun D σ H ⟨σ', m, D', rs, vw, h, cl⟩ => ?_
  exact comp_mut hgi σ H _ ⟨σ', m, _, rs, vw, h, fun w m1 v H1 q e1 vw1 rw1 => cl.nx _ m1 _ H1 q e1 vw1 ((rs.ext e1.ext).set i rw1)⟩
end

/-! ### defs -/
abbrev DX := Value → List (Str × W) → MM → Prop
abbrev DSp := List W → MM → DK → DX → Prop
def ClX (K : PySem.W.Frag) (m : MM) (H : Hp) (E' : DX) (E : XK) : Prop := ∀ c fs m1 d H', E' c fs m1 → Step m H m1 H' → View K m1 H' →
  (match d with | none => fs = [] | some dx => ∃ gs, H' dx = some (.xd gs) ∧ RFs K H' fs gs) → E c d H'
theorem ClX.ext {K : PySem.W.Frag} {m m1 : MM} {H H1 : Hp} {E' : DX} {E : XK} (x : Step m H m1 H1) (h : ClX K m H E' E) : ClX K m1 H1 E' E := fun c fs m2 d H' q e => h c fs m2 d H' q (x.trans e)
def lSp (K : PySem.W.Frag) (sp : DSp) : Sp := fun vs H Q E => ∃ ws m Q' E', RWs K H ws vs ∧ View K m H ∧ sp ws m Q' E' ∧ ClE K m H Q' Q ∧ ClX K m H E' E
/-- sp asks for n arguments -/
def Takes (n : Nat) (sp : DSp) : Prop := ∀ ws m Q E, sp ws m Q E → ws.length = n
theorem lSp_len {K : PySem.W.Frag} {n : Nat} {sp : DSp} {ps : List Str} (hs : DL.Takes n sp) (hn : ps.length = n) : ∀ vs H Q E, lSp K sp vs H Q E → vs.length = ps.length := fun vs H Q E ⟨ws, m, Q', E', h2, _, h3, _⟩ => by rw [← h2.length, hs _ _ _ _ h3, hn]

/-- FnOk where nothing is being shown (repr) -/
structure FnG (P : Program) (w : World) (K : PySem.W.Frag) (mg : Str → Option Value) (base : Heap) (CX : CXT) (k : Nat) (f : Addr) (fd : FuncData) (ps : List Str) (sp : Sp) : Prop where
  len : ∀ vs H Q E, sp vs H Q E → vs.length = ps.length
  run : ∀ (A : Around) (outer : List Env) (s : Shared) (H : Hp) (args : Args) (us : List Value) (vs : List V) (Q : VK) (E : XK), A.guards = some [] → Room k A → Env0 P w K mg base A outer s H → BindsTo s fd args (ps.zip us) → Vals vs us → sp vs H Q E →
    codeAny (model P w) A (.call (.ref f) args) (CR CX outer P w H s Q E) s
theorem FnG.mono {P : Program} {w : World} {K : PySem.W.Frag} {mg : Str → Option Value} {base : Heap} {CX : CXT} {j k : Nat} {f : Addr} {fd : FuncData} {ps : List Str} {sp : Sp} (F : FnG P w K mg base CX j f fd ps sp) (h : j ≤ k) :
    FnG P w K mg base CX k f fd ps sp := ⟨F.len, fun A outer s H args us vs Q E hg hr => F.run A outer s H args us vs Q E hg (hr.mono h)⟩
theorem fnG_of {CX : CXT} {P : Program} {w : World} {K : PySem.W.Frag} {mg : Str → Option Value} {base : Heap} {k : Nat} {f : Addr} {name qual : Str} {params : Arguments} {body : List Stmt} {scope : Scope} {dV kV doc pm cdv ct oc : Value} {an od : Option Addr}
    {osl : Array (Option Value)} {N ps : List Str} {sp : Sp} (lk : K.lookup f = some ⟨oc, od, .func (PySem.W.fnOf name qual params body scope dV kV doc pm an cdv ct), osl⟩) (hcd : PySem.W.codeIn K cdv qual = true) (S : FnScope N ps scope)
    (len : ∀ vs H Q E, sp vs H Q E → vs.length = ps.length)
    (hbody : ∀ (A : Around) (outer : List Env) (s : Shared) (H : Hp) (vs : List V) (Q : VK) (E : XK), A.guards = some [] → Room k (A.deeper (envOfC qual scope s.heap.objs.size f cdv)) → sp vs H Q E →
      ∃ t, PSs (cxOf CX P w K mg base N qual scope f cdv A outer s H E) body t ∧ t { nx := fun _ H' => Q .non H', rt := Q } (start N vs) H) :
    FnG P w K mg base CX (k + 1) f (PySem.W.fnOf name qual params body scope dV kV doc pm an cdv ct) ps sp := by
  refine ⟨len, fun A outer s H args us vs Q E hg hr e0 hb r hsp => ?_⟩
  have hl := len _ _ _ _ hsp
  have KX : K.In s.heap := e0.mod.kin.keeps fun b o e => (e0.bs b o e).1
  have lim : s.heap.NoLimit := e0.mod.nolimit.keeps fun b o e => (e0.bs b o e).1
  have hkind : ∀ y ∈ ps.zip us, scope.names.lookup y.1 = some .local ∨ (scope.names.lookup y.1 = some .cell ∧ ((cellsFrom (s.heap.objs.size + 1) scope.names []).lookup y.1).isSome = true) := fun ⟨n, v⟩ hy => by
    rcases S.par n (List.of_mem_zip hy).1 with q | q
    · exact .inl q
    · exact .inr ⟨q, PySem.W.cellsFrom_some _ _ _ (.inl q)⟩
  refine codeAny_call_function hr.depth (KX _ _ lk) rfl S.co S.gen rfl (PySem.W.codeRec_of KX hcd) (hb _ _ _ _ ?_)
  refine wpAny_newFunctionEnv_cells S.kind hkind fun env he s1 x => ?_
  subst he
  refine ⟨lim.keeps x.toInCall.keep, codeAny_func ?_⟩
  obtain ⟨t, ht, hq⟩ := hbody A outer s H vs Q E hg (hr.deeper _) hsp
  have I : Inv (cxOf CX P w K mg base N qual scope f cdv A outer s H E) [] (start N vs) H s1 := inv_start S hr.hd e0 hl r x
  refine wpAny_mono (ht.run [] s1 (start N vs) H _ I hq) (fun fl s' hs => ?_) fun e s' hs => hs
  have fin : ∀ {σ' : L2.St} {H' : Hp} {v : V} {u : Value}, Inv (cxOf CX P w K mg base N qual scope f cdv A outer s H E) [] σ' H' s' → RelV v u → Q v H' → CE outer P w H s Q u s' :=
    fun {σ' H' v u} J rv q => ⟨v, H', J.os, J.bare, J.base, J.hok, rv, q⟩
  cases fl with
  | ret u =>
    obtain ⟨v, σ', H', J, rv, q⟩ := hs
    exact fin J rv q
  | next =>
    obtain ⟨σ', H', J, q⟩ := hs
    exact fin (v := V.non) (u := Value.none) J rfl q
  | brk =>
    obtain ⟨_, _, _, q⟩ := hs
    exact False.elim q
  | cont =>
    obtain ⟨_, _, _, q⟩ := hs
    exact False.elim q
section
variable {X : Cx} {CX : CXT} {k : Nat} {f C : Addr} {fd : FuncData} {ps : List Str} {sp : Sp} {dvs : List V} {ds : List Value} {E : XK} {x m : Str} {p pos apos : Pos} {e o : Expr} {es : List Expr} {ta : TE} {t : TA}
theorem run_fnG {pins : List (Addr × Obj)} {σ : L2.St} {H : Hp} {s : Shared} {Q : VK} {us : List Value} {vs : List V} (F : FnG X.prog X.w X.K X.mg X.base CX k f fd ps sp) (hgd : X.A.guards = some []) (hr : Room k X.A) (hb : Binds X.K fd ps ds) (hd : Vals dvs ds) (hx : Passes CX X E)
    (I : Inv X pins σ H s) (r : Vals vs us) (h : sp (vs ++ dvs) H Q E) : wpAny (model X.prog X.w) X.A (call (.ref f) us) (EP X pins σ Q) X.xe s := by
  have r2 : Vals (vs ++ dvs) (us ++ ds) := r.append hd
  have hl : (us ++ ds).length = ps.length := by rw [← r2.length]; exact F.len _ _ _ _ h
  refine wpAny_call (codeAny_mono (F.run X.A X.stack s H ⟨us, []⟩ (us ++ ds) (vs ++ dvs) Q E hgd hr I.env0 (hb s us I.kIn hl) r2 h) fun r s' hq => ?_)
  cases r with
  | error e => exact hx pins σ H s e s' I hq
  | ok fl =>
    cases fl with
    | ret u => exact I.after hq
    | next => exact False.elim hq
    | brk => exact False.elim hq
    | cont => exact False.elim hq
theorem pe_callG (F : FnG X.prog X.w X.K X.mg X.base CX k f fd ps sp) (hgd : X.A.guards = some []) (hr : Room k X.A) (hg : Gl X x) (hm : X.mg x = some (.ref f)) (hk : PySem.W.keepIn X.K (.ref f) = true) (hb : Binds X.K fd ps ds) (hd : Vals dvs ds) (hx : Passes CX X E)
    (ha : PA X (e :: es) t) (hdb : (x == ("__debug__" : Str)) = false := by decide) (he : starEach (e :: es) X.env = (false, eval e X.env) :: starEach es X.env := by rfl) (hpl : (backTo pos (starEach es X.env)).any (·.1) = false := by rfl) :
    PE X (.Call (.Name x p) (e :: es) [] pos) (tCall sp dvs E t) := by
  refine ⟨fun pins s σ H Q I h => ?_⟩
  refine wpAny_Call_Name_kw (ld_glob I hg hm ?_ hdb)
  refine PySem.W.callWith_K (h₀ := X.base) I.ok.mod.kin hk (thn (ha.run pos pins s σ H _ I h) fun us s1 ⟨vs, H1, I1, r, q⟩ => ⟨I1.kIn, ?_⟩) he hpl
  exact run_fnG F hgd hr hb hd hx I1 r q
end

/-- a def of the module under its name: called with n values it keeps sp; no exception leaves it -/
structure DFn (P : Program) (w : World) (K : PySem.W.Frag) (mg : Str → Option Value) (base : Heap) (CX : CXT) (k : Nat) (x : Str) (sp : DSp) : Prop where
  ex : ∃ f fd ps, mg x = some (.ref f) ∧ PySem.W.keepIn K (.ref f) = true ∧ Binds K fd ps [] ∧ FnG P w K mg base CX k f fd ps (lSp K sp)
theorem DFn.mono {P : Program} {w : World} {K : PySem.W.Frag} {mg : Str → Option Value} {base : Heap} {CX : CXT} {j k : Nat} {x : Str} {sp : DSp} (F : DFn P w K mg base CX j x sp) (h : j ≤ k) : DFn P w K mg base CX k x sp := by
  obtain ⟨f, fd, ps, a, b, c, d⟩ := F.ex
  exact ⟨f, fd, ps, a, b, c, d.mono h⟩
def noX : DX := fun _ _ _ => False
def dFn (sp : DSp) (t : DTA) : DTE := fun σ m Q => t σ m fun ws m1 => sp ws m1 Q noX
theorem de_fn {X : Cx} {k : Nat} {x : Str} {p pos : Pos} {e : Expr} {es : List Expr} {t : DTA} {sp : DSp} (F : DFn X.prog X.w X.K X.mg X.base CX0 k x sp) (hgd : X.A.guards = some []) (hr : Room k X.A) (hg : Gl X x) (ha : DA X (e :: es) t)
    (hdb : (x == ("__debug__" : Str)) = false := by decide) (he : starEach (e :: es) X.env = (false, eval e X.env) :: starEach es X.env := by rfl) (hpl : (backTo pos (starEach es X.env)).any (·.1) = false := by rfl) :
    DE X (.Call (.Name x p) (e :: es) [] pos) (dFn sp t) := by
  obtain ⟨f, fd, ps, h1, h2, h3, h4⟩ := F.ex
  refine de_of (pe_callG (E := fun _ _ _ => True) h4 hgd hr hg h1 h2 h3 .nil (fun _ _ _ _ _ _ _ z => z.elim) ha hdb he hpl) fun σ H Q ⟨σ', m, Q', rs, vw, h, cl⟩ => ?_
  refine ⟨σ', m, _, rs, vw, h, fun ws m1 vs H1 q e1 vw1 rw1 => ?_⟩
  show lSp X.K sp (vs ++ []) H1 Q fun _ _ _ => True
  rw [List.append_nil]
  exact ⟨ws, m1, Q', noX, rw1, vw1, q, cl.ext e1, fun _ _ _ _ _ z => z.elim⟩

/-! ### from a body to its def -/
def startD (n : Nat) (ws : List W) : DS := ws.map some ++ List.replicate (n - ws.length) none
theorem rs_start {K : PySem.W.Frag} {H : Hp} {ws : List W} {vs : List V} {N : List Str} (h : RWs K H ws vs) : RS K H (startD N.length ws) (L2.start N vs) := by
  have hl := h.length
  refine ⟨by simp [startD, L2.start, hl], fun i w e => ?_⟩
  unfold startD at e
  unfold L2.start
  by_cases hi : i < ws.length
  · rw [List.getElem?_append_left (by simpa using hi), List.getElem?_map] at e
    rw [List.getElem?_append_left (by simpa [← hl] using hi), List.getElem?_map]
    cases q : ws[i]? with
    | none => rw [q] at e; cases e
    | some u =>
      rw [q] at e; cases e
      obtain ⟨v, a, b⟩ := h.get q
      exact ⟨v, by rw [a]; rfl, b⟩
  · rw [List.getElem?_append_right (by simpa using hi), List.getElem?_replicate] at e
    split at e <;> cases e
theorem Step.sub {m m1 m2 : MM} {H H1 : Hp} (s : Step m H m1 H1) (h : Sub m2 m1) : Step m H m2 H1 := ⟨s.ext, fun a o p q => by
  obtain ⟨x, y⟩ := s.fr a o p q
  refine ⟨x, ?_⟩
  cases e : m2 a with
  | none => rfl
  | some u => rw [h a u e] at y; cases y⟩
/-- what a body must reach: the value, a part of the view -/
def dEnds (Q : DK) : DEnds := { nx := fun _ m1 => ∃ m2, Sub m2 m1 ∧ Q (.d .none) m2, rt := fun w m1 => ∃ m2, Sub m2 m1 ∧ Q w m2 }
theorem DFn.mk0 {P : Program} {w : World} {K : PySem.W.Frag} {mg : Str → Option Value} {base : Heap} {k n : Nat} {x : Str} {st : Stmt} {f : Addr} {fd : FuncData} {N ps : List Str} {sp : DSp} {rd : DTS} (F : Fun K x x st f fd) (gx : mg x = some (.ref f)) (S : FnScope N ps (defScope st)) (b : Binds K fd ps []) (hs : DL.Takes n sp) (hn : ps.length = n)
    (dv : ∀ (cdv : Value) (A : Around) (outer : List Env) (s : Shared) (H : Hp) (E : XK), Room k (A.deeper (envOfC x (defScope st) s.heap.objs.size f cdv)) → A.guards = some [] → DSs (cxOf CX0 P w K mg base N x (defScope st) f cdv A outer s H E).nox (defBody st) rd)
    (ct : ∀ ws m Q E, sp ws m Q E → rd (dEnds Q) (startD N.length ws) m) : DFn P w K mg base CX0 (k + 1) x sp := by
  obtain ⟨oc, od, kV, doc, pm, an, cdv, ct', osl, rfl, lk, hcd⟩ := F.ex
  refine ⟨f, _, ps, gx, F.kp, b, fnG_of lk hcd S (lSp_len hs hn) fun A outer s H vs Q E hg hr hsp => ?_⟩
  obtain ⟨ws, m, Q', E', h1, h2, h3, h4, h5⟩ := hsp
  have d := dv cdv A outer s H E hr hg
  refine ⟨_, d.nox, startD N.length ws, m, dEnds Q', rs_start h1, h2, ct _ _ _ _ h3, ⟨?_, ?_, ?_, ?_⟩⟩
  · rintro σ' m1 σ H' ⟨m2, hsub, q⟩ e1 vw1 _
    exact h4 _ m2 _ H' q (e1.sub hsub) (vw1.sub hsub) .non
  · rintro w' m1 v H' ⟨m2, hsub, q⟩ e1 vw1 rw1
    exact h4 _ m2 _ H' q (e1.sub hsub) (vw1.sub hsub) rw1
  · rintro σ' m1 σ H' q
    exact False.elim q
  · rintro σ' m1 σ H' q
    exact False.elim q
end DL
end
section
set_option maxHeartbeats 1000000
namespace DL
open PySem PySem.Spec L2
open PyProof.Rows hiding St

theorem bt_len : bootBuiltins "len" = some (.builtin "len") := by first | exact PySem.boot_len | exact PyProof.Rows.boot_len | exact L2.boot_len | exact PySem.W.boot_len | decide +kernel
theorem bt_isinstance : bootBuiltins "isinstance" = some (.builtin "isinstance") := by first | exact PySem.boot_isinstance | exact PyProof.Rows.boot_isinstance | exact L2.boot_isinstance | exact PySem.W.boot_isinstance | decide +kernel
theorem bt_any : bootBuiltins "any" = some (.builtin "any") := by first | exact PySem.boot_any | exact PyProof.Rows.boot_any | exact L2.boot_any | exact PySem.W.boot_any | decide +kernel
theorem bt_all : bootBuiltins "all" = some (.builtin "all") := by first | exact PySem.boot_all | exact PyProof.Rows.boot_all | exact L2.boot_all | exact PySem.W.boot_all | decide +kernel
theorem bt_sorted : bootBuiltins "sorted" = some (.builtin "sorted") := by first | exact PySem.boot_sorted | exact PyProof.Rows.boot_sorted | exact L2.boot_sorted | exact PySem.W.boot_sorted | decide +kernel
theorem bt_max : bootBuiltins "max" = some (.builtin "max") := by first | exact PySem.boot_max | exact PyProof.Rows.boot_max | exact L2.boot_max | exact PySem.W.boot_max | decide +kernel
theorem bt_min : bootBuiltins "min" = some (.builtin "min") := by first | exact PySem.boot_min | exact PyProof.Rows.boot_min | exact L2.boot_min | exact PySem.W.boot_min | decide +kernel
theorem bt_repr : bootBuiltins "repr" = some (.builtin "repr") := by first | exact PySem.boot_repr | exact PyProof.Rows.boot_repr | exact L2.boot_repr | exact PySem.W.boot_repr | decide +kernel
theorem bt_int : bootBuiltins "int" = some (.type "int") := by first | exact PySem.boot_int | exact PyProof.Rows.boot_int | exact L2.boot_int | exact PySem.W.boot_int | decide +kernel
theorem bt_bool : bootBuiltins "bool" = some (.type "bool") := by first | exact PySem.boot_bool | exact PyProof.Rows.boot_bool | exact L2.boot_bool | exact PySem.W.boot_bool | decide +kernel
theorem bt_str : bootBuiltins "str" = some (.type "str") := by first | exact PySem.boot_str | exact PyProof.Rows.boot_str | exact L2.boot_str | exact PySem.W.boot_str | decide +kernel
theorem bt_tuple : bootBuiltins "tuple" = some (.type "tuple") := by first | exact PySem.boot_tuple | exact PyProof.Rows.boot_tuple | exact L2.boot_tuple | exact PySem.W.boot_tuple | decide +kernel
theorem bt_list : bootBuiltins "list" = some (.type "list") := by first | exact PySem.boot_list | exact PyProof.Rows.boot_list | exact L2.boot_list | exact PySem.W.boot_list | decide +kernel
theorem bt_dict : bootBuiltins "dict" = some (.type "dict") := by first | exact PySem.boot_dict | exact PyProof.Rows.boot_dict | exact L2.boot_dict | exact PySem.W.boot_dict | decide +kernel

section
variable {X : Cx} {e a b c : Expr} {es : List Expr} {t : DTA} {te ta : DTE} {pos p : Pos}
/-! ### displays -/
theorem de_lstF (h : DA X es t) : DE X (.List es pos) (dLstF t) :=
  de_of (pe_frz (pe_lst h)) fun σ H Q ⟨σ', m, Q', rs, vw, h, cl⟩ => ⟨σ', m, _, rs, vw, h, fun ws m1 vs H1 q e1 vw1 rw1 => by
    split at q
    · rename_i ds hd
      have ha := rw1.data hd
      have hl := ha.length
      have hz : vs.length ≤ sizeLine := line_le (by omega)
      refine ⟨hz, fun p np => ⟨p, vs, rfl, upd_same, fun o _ => ?_⟩⟩
      rw [upd_upd]
      have x : Ext H1 (upd H1 p (.frz o (.lst vs))) := .new np
      exact cl _ m1 _ _ q.2 (e1.trans (.new np)) (vw1.grow np) (Fz.lst (.inl ⟨o, upd_same⟩) hz (FzA.ext x ha))
    · exact q.elim⟩

/-! ### a, b = x, y; a, b, c = x, y, z -/
def dPar2 (i j : Nat) (ta : DTA) : DTS := fun D σ m => ta σ m fun ws m1 => match ws with | [u, v] => D.nx ((σ.set i (some u)).set j (some v)) m1 | _ => False
theorem dst_par2 {i j : Nat} {x y : Str} {px py pt : Pos} {kt k2 pt2} (hc : X.calm = true) (hN : X.N.Nodup) (ha : DA X [a, b] t)
    (hx : X.env.scope.names.lookup x = some .local) (hy : X.env.scope.names.lookup y = some .local) (hi : X.N[i]? = some x := by rfl) (hj : X.N[j]? = some y := by rfl) (hij : i ≠ j := by decide)
    (hw : swappedStores [.Tuple [.Name x px, .Name y py] kt pt] (.Tuple [a, b] k2 pt2) X.env = pure (some [x, y]) := by rfl)
    (hs : swapsWithSole [.Tuple [.Name x px, .Name y py] kt pt] (.Tuple [a, b] k2 pt2) pos.line X.env = pure false := by rfl) :
    DSt X (.Assign [.Tuple [.Name x px, .Name y py] kt pt] (.Tuple [a, b] k2 pt2) pos) (dPar2 i j t) := PS.mono (ps_par hc hN hi hj hij hx hy ha hw hs) fun D σ H ⟨σ', m, D', rs, vw, h, cl⟩ =>
  ⟨σ', m, _, rs, vw, h, fun ws m1 vs H1 q e1 vw1 rw1 => by
    split at q
    · obtain ⟨v, v2, rfl, r1, r2⟩ := rws2 rw1
      exact ⟨v, v2, rfl, cl.nx _ m1 _ H1 q e1 vw1 (((rs.ext e1.ext).set i r1).set j r2)⟩
    · exact q.elim⟩
def dPar3 (i j l : Nat) (ta : DTA) : DTS := fun D σ m => ta σ m fun ws m1 => match ws with | [u, v, w] => D.nx (((σ.set i (some u)).set j (some v)).set l (some w)) m1 | _ => False
theorem dst_par3 {i j l : Nat} {x y z : Str} {px py pz pt : Pos} {kt k2 pt2} (hc : X.calm = true) (hN : X.N.Nodup) (ha : DA X [a, b, c] t)
    (hx : X.env.scope.names.lookup x = some .local) (hy : X.env.scope.names.lookup y = some .local) (hz : X.env.scope.names.lookup z = some .local) (hi : X.N[i]? = some x := by rfl) (hj : X.N[j]? = some y := by rfl) (hl : X.N[l]? = some z := by rfl)
    (hij : i ≠ j := by decide) (hil : i ≠ l := by decide) (hjl : j ≠ l := by decide)
    (hw : swappedStores [.Tuple [.Name x px, .Name y py, .Name z pz] kt pt] (.Tuple [a, b, c] k2 pt2) X.env = pure (some [x, y, z]) := by rfl)
    (hs : swapsWithSole [.Tuple [.Name x px, .Name y py, .Name z pz] kt pt] (.Tuple [a, b, c] k2 pt2) pos.line X.env = pure false := by rfl) :
    DSt X (.Assign [.Tuple [.Name x px, .Name y py, .Name z pz] kt pt] (.Tuple [a, b, c] k2 pt2) pos) (dPar3 i j l t) := PS.mono (ps_par3 hc hN hi hj hl hij hil hjl hx hy hz ha hw hs) fun D σ H ⟨σ', m, D', rs, vw, h, cl⟩ =>
  ⟨σ', m, _, rs, vw, h, fun ws m1 vs H1 q e1 vw1 rw1 => by
    split at q
    · cases rw1 with
      | cons r1 rw1 =>
        obtain ⟨v, v2, rfl, r2, r3⟩ := rws2 rw1
        exact ⟨_, v, v2, rfl, cl.nx _ m1 _ H1 q e1 vw1 ((((rs.ext e1.ext).set i r1).set j r2).set l r3)⟩
    · exact q.elim⟩

/-! ### range as a value, made a tuple or a list -/
abbrev DRg := DS → MM → (Int → Int → MM → Prop) → Prop
def lRg (K : PySem.W.Frag) (t : DRg) : L2.St → Hp → (Int → Int → Hp → Prop) → Prop := fun σ H Q => ∃ σ' m Q', RS K H σ' σ ∧ View K m H ∧ t σ' m Q' ∧ ∀ i j m1 H1, Q' i j m1 → Step m H m1 H1 → View K m1 H1 → Q i j H1
abbrev DPRg (X : Cx) (e : Expr) (t : DRg) : Prop := PRg X e (lRg X.K t)
def dRg1 (ta : DTE) : DRg := fun σ m Q => ta σ m fun w m1 => match w with | .d (.int n) => Q 0 n m1 | _ => False
def dRg2 (ta tb : DTE) : DRg := fun σ m Q => ta σ m fun w m1 => tb σ m1 fun u m2 => match w, u with | .d (.int i), .d (.int j) => Q i j m2 | _, _ => False
theorem PRg.mono {t t' : L2.St → Hp → (Int → Int → Hp → Prop) → Prop} (h : PRg X e t) (k : ∀ σ H Q, t' σ H Q → t σ H Q) : PRg X e t' := fun pins s σ H Q I q => h pins s σ H Q I (k σ H Q q)
theorem dprg_1 (hg : Gl X "range") (hm : X.mg "range" = none) (ha : DE X a ta) (na : starEach [a] X.env = (false, eval a X.env) :: starEach [] X.env := by rfl) : DPRg X (.Call (.Name "range" p) [a] [] pos) (dRg1 ta) :=
  PRg.mono (prg_1 hg hm ha na) fun σ H Q ⟨σ', m, Q', rs, vw, h, cl⟩ => ⟨σ', m, _, rs, vw, h, fun w m1 v H1 q e1 vw1 rw1 => by
    split at q
    · cases rw1; exact ⟨_, rfl, cl _ _ m1 H1 q e1 vw1⟩
    · exact q.elim⟩
theorem dprg_2 {tb : DTE} (hg : Gl X "range") (hm : X.mg "range" = none) (ha : DE X a ta) (hb : DE X b tb) (na : starEach [a, b] X.env = (false, eval a X.env) :: starEach [b] X.env := by rfl)
    (nb : starEach [b] X.env = (false, eval b X.env) :: starEach [] X.env := by rfl) (hp : (backTo pos (starEach [b] X.env)).any (·.1) = false := by rfl) : DPRg X (.Call (.Name "range" p) [a, b] [] pos) (dRg2 ta tb) :=
  PRg.mono (prg_2 hg hm ha hb na nb hp) fun σ H Q ⟨σ', m, Q', rs, vw, h, cl⟩ => ⟨σ', m, _, rs, vw, h, fun w m1 v H1 q e1 vw1 rw1 => ⟨σ', m1, _, rs.ext e1.ext, vw1, q, fun w2 m2 v2 H2 q2 e2 vw2 rw2 => by
    split at q2
    · cases rw1; cases rw2; exact ⟨_, _, rfl, rfl, cl _ _ m2 H2 q2 (e1.trans e2) vw2⟩
    · exact q2.elim⟩⟩
def rgD (a b : Int) : List PyData := (List.range (b - a).toNat).map fun i => .int (a + (i : Nat))
theorem fza_rg {K : PySem.W.Frag} {H : Hp} (a b : Int) : FzA K H (rgV a b) (rgD a b) := by
  have : ∀ l : List Nat, FzA K H (l.map fun i => V.int (a + (i : Nat))) (l.map fun i => PyData.int (a + (i : Nat))) := by
    intro l
    induction l with
    | nil => exact .nil
    | cons x l ih => exact .cons (.int _) ih
  exact this _
def rgOk (a b : Int) : Prop := -8388608 ≤ a ∧ a ≤ 8388608 ∧ -8388608 ≤ b ∧ b ≤ 8388608
theorem rgOk.ok {a b : Int} (h : rgOk a b) : RgOk a b := by
  obtain ⟨h1, h2, h3, h4⟩ := h
  refine ⟨by omega, by omega, by omega, by omega, ?_⟩
  have : (b - a).toNat ≤ 16777216 := by omega
  exact this
def dRngTup (t : DRg) : DTE := fun σ m Q => t σ m fun i j m1 => rgOk i j ∧ Q (.d (.tuple (rgD i j))) m1
def dRngLst (t : DRg) : DTE := fun σ m Q => t σ m fun i j m1 => rgOk i j ∧ Q (.d (.list (rgD i j))) m1
def dRngLstM (t : DRg) : DTE := fun σ m Q => t σ m fun i j m1 => rgOk i j ∧ ∀ a, m1 a = none → Q (.v (.ref a)) (mset m1 a (.lst ((rgD i j).map W.d)))
theorem de_rngLstM {t : DRg} (hc : X.calm = true) (hg : Gl X "list") (hm : X.mg "list" = none) (he : DPRg X e t) (na : starEach [e] X.env = (false, eval e X.env) :: starEach [] X.env := by rfl) : DE X (.Call (.Name "list" p) [e] [] pos) (dRngLstM t) :=
  de_of (pe_listRg hc hg hm he na) fun σ H Q ⟨σ', m, Q', rs, vw, h, cl⟩ => ⟨σ', m, _, rs, vw, h, fun i j m1 H1 q e1 vw1 => ⟨q.1.ok, fun a na => by
    have x : Ext H1 (upd H1 a (.lst (rgV i j))) := .new na
    exact cl _ _ _ _ (q.2 a (vw1.free na)) (e1.trans (.newM na)) (vw1.new na (.lst (RWs.of_data (fza_rg i j)))) rfl⟩⟩
theorem de_rngLst {t : DRg} (hc : X.calm = true) (hg : Gl X "list") (hm : X.mg "list" = none) (he : DPRg X e t) (na : starEach [e] X.env = (false, eval e X.env) :: starEach [] X.env := by rfl) : DE X (.Call (.Name "list" p) [e] [] pos) (dRngLst t) :=
  de_of (pe_frz (pe_listRg hc hg hm he na)) fun σ H Q ⟨σ', m, Q', rs, vw, h, cl⟩ => ⟨σ', m, _, rs, vw, h, fun i j m1 H1 q e1 vw1 => ⟨q.1.ok, fun a na => ⟨a, _, rfl, upd_same, fun o z => by
    rw [upd_upd]
    exact cl _ m1 _ _ q.2 (e1.trans (.new na)) (vw1.grow na) (Fz.lst (.inl ⟨o, upd_same⟩) z (fza_rg i j))⟩⟩⟩
theorem de_rngTup {t : DRg} (hc : X.calm = true) (hg : Gl X "tuple") (hm : X.mg "tuple" = none) (he : DPRg X e t) (na : starEach [e] X.env = (false, eval e X.env) :: starEach [] X.env := by rfl) : DE X (.Call (.Name "tuple" p) [e] [] pos) (dRngTup t) := by
  refine ⟨fun pins s σ H Q I h => ?_⟩
  obtain ⟨σ', m, Q', rs, vw, h, cl⟩ := h
  refine Call_ (ld_blt I hg hm boot_tuple (PyProof.Rows.callWith_type1 (args_cons (thn (he pins s σ H (fun i j H1 => ∃ m1, Step m H m1 H1 ∧ View X.K m1 H1 ∧ rgOk i j ∧ Q' (.d (.tuple (rgD i j))) m1) I ⟨σ', m, _, rs, vw, h, fun i j m1 H1 q e1 vw1 => ⟨m1, e1, vw1, q⟩⟩) fun x s1 ⟨r, a, b, t, u, v, H1, ex, hr, I1, m1, e1, vw1, ok, q⟩ => args_nil ?_) na) na))
  subst ex
  obtain ⟨b1, b2, b3, b4, b5⟩ := ok.ok
  refine call_tuple_range (n := (b - a).toNat) (I1.ok.hd hc) hr (small_one b1 b2 b3 b4) (rangeSize_nat a b) b5 fun h' tk acc hk hi => ?_
  have I2 : Inv X pins σ H1 { s1 with heap := h', toks := tk } := I1.kept hk
  have := Inv.newT (t' := tk) I2 (vals_rg hi) (by rw [rgV_length, sizeLine_eq]; omega) (fza_rg a b) vw1 q (cl.ext e1)
  simpa using this

/-! ### {}, {k: v} -/
def dDict0 : DTE := fun _ m Q => Q (.d (.dict [])) m
theorem Inv.frzD {pins : List (Addr × Obj)} {σ : L2.St} {H : Hp} {s : Shared} (I : Inv X pins σ H s) {a : Addr} {kvs : List (Key × V)} (hH : H a = some (.dK kvs)) : ∃ o, Inv X pins σ (upd H a (.frz o (.dK kvs))) s := by
  have ok := I.hok a _ hH
  obtain ⟨z, hs, vs, r, o, es, ep, ho, hx⟩ := id ok
  refine ⟨o, ?_⟩
  have nown : ∀ b y, H b = some (.own y) → b ≠ a := fun b y r z => by subst z; rw [hH] at r; cases r
  have ntup : ∀ b ys, H b = some (.tup ys) → b ≠ a := fun b y r z => by subst z; rw [hH] at r; cases r
  have nfrz : ∀ b o u, H b = some (.frz o u) → b ≠ a := fun b o u r z => by subst z; rw [hH] at r; cases r
  have ntbl : ∀ b ps, H b = some (.tbl ps) → b ≠ a := fun b ps r z => by subst z; rw [hH] at r; cases r
  have nn : ∀ b, H b = none → b ≠ a := fun b r z => by subst z; rw [hH] at r; cases r
  refine I.un (h' := s.heap) (t' := s.toks) ⟨fun b ob q _ _ _ => q, fun b ob q _ _ _ => ⟨ob.slots, q⟩, fun b ob _ n _ => by rw [upd_ne (nn b n)]; exact n, fun b ob q _ => ⟨ob, q⟩, fun b ys q => by rw [upd_ne (ntup b ys q)]; exact q,
    fun b o u q => by rw [upd_ne (nfrz b o u q)]; exact q, fun b ps q => ⟨#[], by rw [upd_ne (ntbl b ps q), q]; simp⟩⟩ ?_
  intro b u q
  by_cases hb : b = a
  · subst hb
    rw [upd_same] at q; cases q
    exact ⟨ho, z, hs, vs, r, o, es, ep, ho, hx⟩
  · rw [upd_ne hb] at q
    exact (I.hok b u q).stay (fun c v _ r => r) (fun c r => by rw [upd_ne (nown c b r)]; exact r) fun c ys r => by rw [upd_ne (ntup c ys r)]; exact r
def tFrzD (t : TE) : TE := fun σ H Q => t σ H fun v H1 => ∃ a kvs, v = .ref a ∧ H1 a = some (.dK kvs) ∧ ∀ o, Q (.ref a) (upd H1 a (.frz o (.dK kvs)))
theorem pe_frzD {t : TE} (h : PE X e t) : PE X e (tFrzD t) := ⟨fun pins s σ H Q I q => by
  refine thn (h.run pins s σ H _ I q) fun u s1 ⟨v, H1, I1, r1, a, kvs, e, hH, q1⟩ => ?_
  subst e
  cases r1
  obtain ⟨o, I2⟩ := Inv.frzD I1 hH
  exact ⟨.ref a, _, I2, rfl, q1 o⟩⟩
theorem de_dict0 : DE X (.Dict [] [] pos) dDict0 := de_of (pe_frzD pe_dnewK) fun σ H Q ⟨σ', m, Q', rs, vw, h, cl⟩ => fun p np => ⟨p, [], rfl, upd_same, fun o => by
  rw [upd_upd]
  exact cl _ m _ _ h (.new np) (vw.grow np) (Fz.dct (ks := []) (vs := []) (ds := []) upd_same rfl .nil)⟩
/-- a written int as the key -/
def dDict1 (k : Int) (tv : DTE) : DTE := fun σ m Q => tv σ m fun w m1 => match w with | .d y => Q (.d (.dict [(.int k, y)])) m1 | _ => False
theorem de_dict1 {k : Int} {j : Nat} {v : Expr} {tv : DTE} {kp : Pos} (hv : DE X v tv) : DE X (.Dict [some (.Constant (.int k) j kp)] [v] pos) (dDict1 k tv) :=
  de_of (pe_frzD (pe_disp (pps_cons (pe_int (i := k)) hv pps_nil) rfl rfl (by simp) (by simp))) fun σ H Q ⟨σ', m, Q', rs, vw, h, cl⟩ => fun p np =>
    ⟨σ', m, _, rs.ext (.new np), vw.grow np, h, fun w m1 v' H1 q e1 vw1 rw1 => by
      split at q
      · rename_i y
        obtain ⟨hp, n1⟩ := e1.fr p _ upd_same (vw.free np)
        refine ⟨hp, [(.inl k, v')], rfl, by simp, p, [(.inl k, v')], rfl, upd_same, fun o => ?_⟩
        rw [upd_upd]
        have x : Ext H1 (upd H1 p (.frz o (.dK [(.inl k, v')]))) := ⟨fun b ys q => by rw [upd_ne (ne_of q hp (by intro z; cases z))]; exact q, fun b o u q => by rw [upd_ne (ne_of q hp (by intro z; cases z))]; exact q⟩
        have s0 : Step m H m1 H1 := (Step.new np).trans e1
        exact cl _ m1 _ _ q (s0.poke (fun u z _ => by rw [np] at z; cases z) x) (vw1.poke n1 x) (Fz.dct (ks := [.inl k]) (vs := [v']) (ds := [y]) upd_same rfl (.cons (Fz.ext x rw1) .nil))
      · exact q.elim⟩

end
end DL
end
section
set_option maxHeartbeats 1000000
namespace DL
open PySem PySem.Spec L2
open PyProof.Rows hiding St
open PySem.AutoSeq1 (wpAny_loadPart')
open PySem.MeetsSeq PySem.MeetsSeq2 PySem.MeetsSeq3

/-! ### t[::-1] -/
theorem pick_rev (xs : Array Value) : ((List.range xs.size).filterMap fun (m : Nat) => xs[(((xs.size : Int) - 1) + (m : Int) * -1).toNat]?).toArray = xs.toList.reverse.toArray := by
  have h := PySem.W.krv_pick xs
  have e : ((List.range xs.size).filterMap fun (m : Nat) => xs[(((xs.size : Int) - 1) + (m : Int) * -1).toNat]?) = ((List.range xs.size).map fun k => xs.size - 1 - k).filterMap (xs[·]?) := by
    rw [List.filterMap_map]
    have g : ∀ l : List Nat, (∀ m ∈ l, m < xs.size) → l.filterMap (fun (m : Nat) => xs[(((xs.size : Int) - 1) + (m : Int) * -1).toNat]?) = l.filterMap ((fun x => xs[x]?) ∘ fun k => xs.size - 1 - k) := by
      intro l
      induction l with
      | nil => intro _; rfl
      | cons x l ih =>
        intro h
        have hx : x < xs.size := h x (by simp)
        have h1 : (((xs.size : Int) - 1) + (x : Int) * -1).toNat = xs.size - 1 - x := by omega
        rw [List.filterMap_cons, List.filterMap_cons, ih fun m hm => h m (by simp [hm]), h1]
        rfl
    exact g _ fun m hm => List.mem_range.mp hm
  rw [e, PySem.W.krv_range, List.filterMap_reverse, PySem.W.krv_all]
section
variable {prog : Program} {w : World} {A : Around} {E : Value → Shared → Prop} {s : Shared}
theorem adjust_rev (n : Nat) : Builtin.Slice.sliceAdjust none none (-1) (n : Int) = ((n : Int) - 1, -1) := by
  unfold Builtin.Slice.sliceAdjust
  simp
theorem places_rev (n : Nat) : Builtin.Slice.slicePlaces ((n : Int) - 1) (-1) (-1) = n := by
  unfold Builtin.Slice.slicePlaces
  simp
  omega
theorem sliceApplied_rev {sl : Addr} {t : Tok} {n : Nat} {Q : Int × Int × Nat → Shared → Prop} (hs : s.heap.IsSliceOf sl .none .none (.int (-1) t))
    (h : Q ((n : Int) - 1, -1, n) s) : wpAny (model prog w) A (Builtin.Slice.sliceApplied (.ref sl) (pure (n : Int))) Q E s := by
  obtain ⟨os, hos, hcs, hds⟩ := id hs
  unfold Builtin.Slice.sliceApplied Builtin.Slice.sliceFields
  refine wpAny_bind (wpAny_bind (wpAny_field hos hds (x := .none) rfl (wpAny_bind (wpAny_field hos hds (x := .none) rfl (wpAny_bind (wpAny_field hos hds (x := .int (-1) t) rfl (wpAny_pure ?_)))))))
  refine wpAny_bind (PyProof.Rows.slicePart_int ?_)
  show wpAny _ _ (if ((-1 : Int) == 0) = true then _ else _) _ _ s
  rw [if_neg (by decide)]
  refine wpAny_bind (PyProof.Rows.slicePart_none (wpAny_bind (PyProof.Rows.slicePart_none (wpAny_bind (wpAny_pure ?_)))))
  show wpAny _ _ (match Builtin.Slice.sliceAdjust none none (-1) (n : Int) with | (lo, hi) => pure (lo, (-1 : Int), Builtin.Slice.slicePlaces lo hi (-1))) _ _ s
  rw [adjust_rev n]
  show wpAny _ _ (pure ((n : Int) - 1, (-1 : Int), Builtin.Slice.slicePlaces ((n : Int) - 1) (-1) (-1))) _ _ s
  rw [places_rev]
  exact wpAny_pure h
theorem getItem_tuple_rev {t sl : Addr} {items : Array Value} {tk : Tok} {Q : Value → Shared → Prop} (ht : IsTup s.heap t items) (hs : s.heap.IsSliceOf sl .none .none (.int (-1) tk))
    (h : Q (.ref s.heap.objs.size) { s with heap := s.heap.push { cls := .type "tuple", data := .seq items.toList.reverse.toArray } })
    (hsz : items.size ≤ sizeLine) : wpAny (model prog w) A (getItem (.ref t) (.ref sl)) Q E s := by
  have htake : sizeOk (.seq items.toList.reverse.toArray) := by
    show items.toList.reverse.toArray.size ≤ sizeLine
    rw [List.size_toArray, List.length_reverse, Array.length_toList]
    omega
  obtain ⟨os, hos, hcs, hds⟩ := id hs
  have hTs : s.TypeIs (.ref sl) "slice" := ⟨os, hos, hcs⟩
  unfold getItem
  try with_reducible refine wpAny_holding ?_
  first | refine wpAny_bind (wpAny_pure ?_) | skip
  refine wpAny_bind (wpAny_sequenceKey ht.typeIs (by decide) ?_)
  refine wpAny_bind (wpAny_callSpecial?_slot (name := Str.ofString "__getitem__") ht.typeIs PyProof.Rows.slot_tuple_getitem
    (wpAny_call_entry PyProof.Rows.slot_tuple_getitem ht.typeIs PyProof.Rows.entry_tuple_getitem ?_ (PyProof.Rows.args_tuple_getitem _ _)))
  show wpAny _ _ (Builtin.Tuple.tupleItemsOf (.ref t) >>= _) _ _ s
  refine wpAny_bind (PyProof.Rows.tupleItemsOf_ ht ?_)
  refine wpAny_bind (wpAny_typeOf hTs ?_)
  rw [if_pos (by decide)]
  refine wpAny_bind (sliceApplied_rev hs ?_)
  have hno : ¬ ((((items.size : Int) - 1 == 0 && (-1 : Int) == 1 && items.size == items.size)) = true) := by
    intro q
    rw [Bool.and_eq_true, Bool.and_eq_true] at q
    exact absurd q.1.2 (by decide)
  show wpAny _ _ (if ((items.size : Int) - 1 == 0 && (-1 : Int) == 1 && items.size == items.size) = true then _ else _) _ _ s
  rw [if_neg hno, pick_rev]
  first
    | exact wpAny_bind (m := Builtin.Tuple.tupleExact _) (wpAny_newObj_type (wpAny_pure ⟨_, rfl, wpAny_pure h⟩) htake)
    | exact wpAny_bind (m := Builtin.Tuple.tupleExact _) (wpAny_newObj_type (wpAny_bind (wpAny_pure (wpAny_pure ⟨_, rfl, wpAny_pure h⟩))) htake)
    | exact wpAny_bind (wpAny_bind (m := Builtin.Tuple.tupleExact _) (wpAny_newObj_type (wpAny_pure (wpAny_pure ⟨_, rfl, wpAny_pure h⟩)) htake))
    | exact wpAny_bind (wpAny_bind (m := Builtin.Tuple.tupleExact _) (wpAny_newObj_type (wpAny_pure ⟨_, rfl, wpAny_pure h⟩) htake))
end
theorem FzA.rev {K : PySem.W.Frag} {H : Hp} : ∀ {vs : List V} {ds : List PyData}, FzA K H vs ds → FzA K H vs.reverse ds.reverse
  | _, _, .nil => .nil
  | _, _, .cons h t => by
    rw [List.reverse_cons, List.reverse_cons]
    exact FzA.append (FzA.rev t) (.cons h .nil)
section
variable {X : Cx} {e a b c : Expr} {es : List Expr} {te : DTE} {pos p : Pos}
def dRev (te : DTE) : DTE := fun σ m Q => te σ m fun w m1 => match w with
  | .d (.list xs) => Q (.d (.list xs.reverse)) m1
  | .d (.tuple xs) => Q (.d (.tuple xs.reverse)) m1
  | _ => False
theorem de_rev {k : Nat} {p1 p2 p3 pos : Pos} (he : DE X e te) : DE X (.Subscript e (.Slice none none (some (.UnaryOp .USub (.Constant (.int 1) k p1) p2)) p3) pos) (dRev te) := by
  refine ⟨fun pins s σ H Q I h => ?_⟩
  obtain ⟨σ', m, Q', rs, vw, h, cl⟩ := h
  refine Subscript_ (thn (he.run pins s σ H (fun x H1 => ∃ w m1, Step m H m1 H1 ∧ View X.K m1 H1 ∧ RW X.K H1 w x ∧ match w with
    | .d (.list xs) => Q' (.d (.list xs.reverse)) m1
    | .d (.tuple xs) => Q' (.d (.tuple xs.reverse)) m1
    | _ => False) I ⟨σ', m, _, rs, vw, h, fun w m1 v H1 q e1 vw1 rw1 => ⟨w, m1, e1, vw1, rw1, q⟩⟩) fun v s1 ⟨x, H1, I1, r1, w, m1, e1, vw1, rw1, q1⟩ => ?_)
  have hst : PO X (some (.UnaryOp .USub (.Constant (.int 1) k p1) p2)) (tPart (tUn (rU fun i => .int (-i)) (tC (.int 1)))) := po_some (pe_un un_neg pe_int)
  refine wpAny_Slice (thn (po_none.run pins s1 σ H1 (fun o H2 => o = none ∧ H2 = H1) I1 ⟨rfl, rfl⟩) fun vl s2 ⟨l, H2, I2, pl, el, e2⟩ => ?_)
  subst el e2
  refine thn (po_none.run pins s2 σ H2 (fun o H3 => o = none ∧ H3 = H2) I2 ⟨rfl, rfl⟩) fun vu s3 ⟨u, H3, I3, pu, eu, e3⟩ => ?_
  subst eu e3
  refine thn (hst.run pins s3 σ H3 (fun o H4 => o = some (-1) ∧ H4 = H3) I3 ⟨1, rfl, -1, rfl, rfl, rfl⟩) fun vs s4 ⟨o, H4, I4, ps, eo, e4⟩ => ?_
  subst eo e4
  have I5 : Inv X pins σ H4 { s4 with heap := s4.heap.push { cls := .type "slice", data := .fields #[vl, vu, vs] } } := I4.kept (t' := s4.toks) fun b ob q => Heap.get?_push_of_some _ q
  split at q1
  · rename_i xs
    cases rw1 with
    | @lst a ys _ hL z ha =>
      cases r1
      obtain ⟨its, r, ht, hz⟩ := I5.list hL.sq
      have hlen := r.length
      show wpAny (model X.prog X.w) X.A (subscriptTail e (.Slice none none (some (.UnaryOp .USub (.Constant (.int 1) k p1) p2)) p3) (.ref a) (.ref s4.heap.objs.size)) (EP X pins σ Q) X.xe { s4 with heap := s4.heap.push { cls := .type "slice", data := .fields #[vl, vu, vs] } }
      refine tail_any (ops := [.ref a, .ref s4.heap.objs.size]) ht.isList.typeIs (PySem.slot_list_getitem.lookup) ?_ (by with_unfolding_all rfl)
      refine wpAny_getItem_list_slice ht.isList (Heap.IsSliceOf.new _ vl vu vs) pl pu ps (by decide) ?_ (by rw [List.size_toArray]; omega)
      rw [PySem.W.krv_pick]
      exact Inv.newF (t' := s4.toks) I5 r.reverse (by rw [List.length_reverse]; exact z) ha.rev vw1 q1 (cl.ext e1)
  · rename_i xs
    cases rw1 with
    | @tup a ys _ hL z ha =>
      cases r1
      obtain ⟨its, r, ht, hz⟩ := I5.tuple hL.sq
      have hlen := r.length
      cases pl
      cases pu
      show wpAny (model X.prog X.w) X.A (subscriptTail e (.Slice none none (some (.UnaryOp .USub (.Constant (.int 1) k p1) p2)) p3) (.ref a) (.ref s4.heap.objs.size)) (EP X pins σ Q) X.xe { s4 with heap := s4.heap.push { cls := .type "slice", data := .fields #[.none, .none, vs] } }
      refine tail_any (ops := [.ref a, .ref s4.heap.objs.size]) ht.typeIs (PyProof.Rows.slot_tuple_getitem.lookup) ?_ (by with_unfolding_all rfl)
      cases ps with
      | int i t =>
      refine getItem_tuple_rev ht (Heap.IsSliceOf.new _ .none .none (.int (-1) t)) ?_ (by rw [List.size_toArray]; omega)
      exact Inv.newT (t' := s4.toks) I5 r.reverse (by rw [List.length_reverse]; exact z) ha.rev vw1 q1 (cl.ext e1)
  · exact q1.elim
end
end DL
end
section
set_option maxHeartbeats 1000000
namespace DL
open PySem PySem.Spec L2
open PyProof.Rows hiding St
section
variable {X : Cx} {e a b c : Expr} {es : List Expr} {te : DTE} {ta : DTA} {pos p : Pos}
/-! ### zip -/
def zipW (xs ys : List PyData) : List W := List.zipWith (fun x y => W.p [x, y]) xs ys
theorem zipW_len (xs ys : List PyData) : (zipW xs ys).length = min xs.length ys.length := List.length_zipWith ..
theorem dwalk_pair {K : PySem.W.Frag} {H : Hp} {J : It} {vs us : List V} {xs ys : List PyData} {G : Hp → Prop} (w : Walk J (min vs.length us.length) G (YPair (fun i => vs[i]?) fun i => us[i]?)) (keep : ∀ H H', G H → Ext H H' → G H')
    (hd : ∀ H, G H → FzA K H vs xs ∧ FzA K H us ys) (z : vs.length ≤ sizeLine) (hG : G H) : DWalk K J (zipW xs ys) H := by
  obtain ⟨a1, a2⟩ := hd H hG
  have l1 := a1.length
  have l2 := a2.length
  refine ⟨by rw [zipW_len, ← l1]; omega, G, YPair (fun i => vs[i]?) (fun i => us[i]?), ⟨?_, keep, fun i H x H' q y => ?_⟩, hG⟩
  · rw [zipW_len, ← l1, ← l2]
    exact w
  · obtain ⟨T, x', y', rfl, hT, rfl, f1, f2⟩ := y
    obtain ⟨b1, b2⟩ := hd H q
    obtain ⟨d1, e1, r1⟩ := b1.getV f1
    obtain ⟨d2, e2, r2⟩ := b2.getV f2
    have x1 : Ext H (upd H T (.tup [x', y'])) := .new hT
    refine ⟨fun b o h => by rw [upd_ne (ne_of_none h hT)]; exact h, x1, .p [d1, d2], ?_, T, [x', y'], rfl, .inl (.inl upd_same), .cons (r1.ext x1) (.cons (r2.ext x1) .nil)⟩
    show (List.zipWith (fun x y => W.p [x, y]) xs ys)[i]? = _
    rw [List.getElem?_zipWith, e1, e2]
def diZip (ta : DTA) : DTI := fun σ m R => ta σ m fun ws m1 => match ws with
  | [.d (.list xs), .d (.list ys)] => R (zipW xs ys) m1
  | [.d (.tuple xs), .d (.tuple ys)] => R (zipW xs ys) m1
  | _ => False
theorem walk_zipT {K : PySem.W.Frag} {a b : Addr} {xs ys : List V} : Walk (RZ.ItzT K a b) (min xs.length ys.length) (fun H => SqT K H a xs ∧ SqT K H b ys) (YPair (fun i => xs[i]?) (fun i => ys[i]?)) := by
  refine ⟨fun i _ hi q => ?_, fun _ q => ⟨xs, ys, q.1, q.2, by omega⟩, fun i H v H' _ q y => ?_⟩
  · have h1 : i < xs.length := by omega
    have h2 : i < ys.length := by omega
    exact ⟨xs, ys, xs[i], ys[i], q.1, q.2, by simp [h1], by simp [h2]⟩
  · obtain ⟨T, x, z, h1, h2, h3, h4, h5⟩ := y
    exact ⟨T, x, z, h1, h2, h3, h4 xs q.1, h5 ys q.2⟩
theorem di_zip {elts : List Expr} {kk : Nat} {tpos : Pos} (hg : Gl X "zip") (hm : X.mg "zip" = none) (ha : DA X [a, b] ta)
    (hs : starEach [a, b] X.env = (false, eval a X.env) :: starEach [b] X.env := by rfl) (hpl : (backTo pos (starEach [b] X.env)).any (·.1) = false := by rfl) :
    DI X (.Tuple elts kk tpos) (.Call (.Name "zip" p) [a, b] [] pos) (diZip ta) :=
  ⟨fun pins s σ H R I ⟨σ', m, R', rs, vw, h, cl⟩ => (RZ.pi_zipA hg hm ha hs hpl).run pins s σ H R I ⟨σ', m, _, rs, vw, h, fun ws m1 vs H1 q e1 vw1 rw1 => by
    split at q
    · obtain ⟨v, v2, rfl, r1, r2⟩ := rws2 rw1
      cases r1 with
      | lst h1 z1 a1 =>
        cases r2 with
        | lst h2 z2 a2 =>
          exact ⟨_, _, _, _, rfl, .inl ⟨h1.sq, h2.sq, cl _ m1 H1 _ q e1 vw1 (dwalk_pair (G := fun H => (FzL X.K H _ _ ∧ FzL X.K H _ _) ∧ FzA X.K H _ _ ∧ FzA X.K H _ _) ((walk_zip rfl).mono (fun H q => ⟨q.1.1.sq, q.1.2.sq⟩) fun i H x H' _ _ y => y)
            (fun H H' q x => ⟨⟨x.fzl q.1.1, x.fzl q.1.2⟩, FzA.ext x q.2.1, FzA.ext x q.2.2⟩) (fun H q => q.2) z1 ⟨⟨h1, h2⟩, a1, a2⟩)⟩⟩
    · obtain ⟨v, v2, rfl, r1, r2⟩ := rws2 rw1
      cases r1 with
      | tup h1 z1 a1 =>
        cases r2 with
        | tup h2 z2 a2 =>
          exact ⟨_, _, _, _, rfl, .inr ⟨h1.sq, h2.sq, cl _ m1 H1 _ q e1 vw1 (dwalk_pair (G := fun H => (FzT X.K H _ _ ∧ FzT X.K H _ _) ∧ FzA X.K H _ _ ∧ FzA X.K H _ _) (walk_zipT.mono (fun H q => ⟨q.1.1.sq, q.1.2.sq⟩) fun i H x H' _ _ y => y)
            (fun H H' q x => ⟨⟨x.fzt q.1.1, x.fzt q.1.2⟩, FzA.ext x q.2.1, FzA.ext x q.2.2⟩) (fun H q => q.2) z1 ⟨⟨h1, h2⟩, a1, a2⟩)⟩⟩
    · exact q.elim⟩⟩

/-! ### xs.append(x), the list in the view -/
def dMappend (to : DTE) (ta : DTA) : DTE := fun σ m Q => to σ m fun w m1 => match w with
  | .v (.ref l) => (∃ y, m1 l = some (.lst y)) ∧ ta σ m1 fun ws m2 => match ws with
    | [u] => ∃ xs, m2 l = some (.lst xs) ∧ xs.length < 16777216 ∧ Q (.d .none) (mset m2 l (.lst (xs ++ [u])))
    | _ => False
  | _ => False
theorem dm_append {o : Expr} {to : DTE} {apos cpos : Pos} (ho : DE X o to) (ha : DA X [e] ta) (hbase : attributeBase o "append" X.env (eval o X.env) = eval o X.env := by rfl)
    (hfew : ((backTo cpos (starEach [e] X.env)).all (fun x => !x.1) && (backToKw cpos (keywordEach [] X.env)).all (fun x => x.1.isSome)
      && decide ([e].length + ([] : List Keyword).length + (if ([] : List Keyword).isEmpty then 0 else 1) < 30)) = true := by rfl)
    (hline : (apos.endLine == cpos.line) = true := by rfl) (hs : starEach [e] X.env = (false, eval e X.env) :: starEach [] X.env := by rfl) (hplain : (backTo cpos (starEach [] X.env)).any (·.1) = false := by rfl) :
    DE X (.Call (.Attribute o "append" apos) [e] [] cpos) (dMappend to ta) :=
  de_of (pe_bm F.plainAttrs_list F.slot_list_append F.type_list_append mt_append ho ha hbase hfew hline hs hplain) fun σ H Q ⟨σ', m, Q', rs, vw, h, cl⟩ => ⟨σ', m, _, rs, vw, h, fun w m1 v H1 q e1 vw1 rw1 => by
    split at q
    · rename_i l
      obtain ⟨⟨y, hy⟩, q⟩ := q
      cases rw1
      obtain ⟨vs0, hv0, _⟩ := vw1.lst hy
      refine ⟨.inl ⟨rfl, vs0, SqL.of hv0⟩, σ', m1, _, rs.ext e1.ext, vw1, q, fun ws m2 vs H2 q2 e2 vw2 rw2 => ?_⟩
      split at q2
      · rename_i u
        obtain ⟨xs, hx, hz, q2⟩ := q2
        obtain ⟨v, rfl, r2⟩ := rws1 rw2
        obtain ⟨vs, hv, rv⟩ := vw2.lst hx
        have x : Ext H2 (upd H2 l (.lst (vs ++ [v]))) := .lst hv
        refine ⟨l, vs, v, rfl, rfl, hv, by rw [← rv.length]; exact lt24 hz, cl _ _ _ _ q2 ((e1.trans e2).trans (.put x hx)) (vw2.put x (.lst ((RWs.append rv (.cons r2 .nil)).ext x))) .non⟩
      · exact q2.elim
    · exact q.elim⟩
/-! ### xs.count(x) -/
def dMcount (to : DTE) (ta : DTA) : DTE := fun σ m Q => to σ m fun w m1 => match w with
  | .d (.list xs) => ta σ m1 fun ws m2 => match ws with
    | [.d y] => inOk y xs = true ∧ Q (.d (.int ((xs.countP fun z => PyData.eqv z y : Nat) : Int))) m2
    | _ => False
  | .d (.tuple xs) => ta σ m1 fun ws m2 => match ws with
    | [.d y] => inOk y xs = true ∧ Q (.d (.int ((xs.countP fun z => PyData.eqv z y : Nat) : Int))) m2
    | _ => False
  | _ => False
theorem isT_list {pins : List (Addr × Obj)} {σ : L2.St} {H : Hp} {s : Shared} {a : Addr} {xs : List V} (I : Inv X pins σ H s) (h : SqL X.K H a xs) : s.TypeIs (.ref a) "list" ∧ ∀ b, Value.ref a = .ref b → ∃ ob, s.heap.get? b = some ob ∧ ob.dict = none := by
  obtain ⟨its, _, pl, _⟩ := I.list h
  refine ⟨pl.isList.typeIs, fun b e => ?_⟩
  cases e
  obtain ⟨o, n, e, c, hd, _⟩ := pl
  exact ⟨o, e, hd⟩
theorem isT_tup {pins : List (Addr × Obj)} {σ : L2.St} {H : Hp} {s : Shared} {a : Addr} {xs : List V} (I : Inv X pins σ H s) (h : FzT X.K H a xs) : s.TypeIs (.ref a) "tuple" ∧ ∀ b, Value.ref a = .ref b → ∃ ob, s.heap.get? b = some ob ∧ ob.dict = none := by
  obtain ⟨its, _, pl, _⟩ := I.tuple h.sq
  refine ⟨pl.typeIs, fun b e => ?_⟩
  cases e
  rcases h with ⟨o, h, hd⟩ | ⟨o, its, n, h1, h2, hd, _⟩
  · exact ⟨o, (I.hok a _ h).1, hd⟩
  · exact ⟨o, I.kIn _ _ h1, hd⟩
theorem de_count (hu : X.A.units + 150 < cLine) {o : Expr} {to : DTE} {apos cpos : Pos} (ho : DE X o to) (ha : DA X [e] ta) (hbase : attributeBase o "count" X.env (eval o X.env) = eval o X.env := by rfl)
    (hfew : ((backTo cpos (starEach [e] X.env)).all (fun x => !x.1) && (backToKw cpos (keywordEach [] X.env)).all (fun x => x.1.isSome)
      && decide ([e].length + ([] : List Keyword).length + (if ([] : List Keyword).isEmpty then 0 else 1) < 30)) = true := by rfl)
    (hline : (apos.endLine == cpos.line) = true := by rfl) (hs : starEach [e] X.env = (false, eval e X.env) :: starEach [] X.env := by rfl) (hplain : (backTo cpos (starEach [] X.env)).any (·.1) = false := by rfl) :
    DE X (.Call (.Attribute o "count" apos) [e] [] cpos) (dMcount to ta) := by
  refine ⟨fun pins s σ H Q I h => ?_⟩
  obtain ⟨σ', m, Q', rs, vw, h, cl⟩ := h
  refine wpAny_Call_method_late hbase hfew hline rfl (thn (ho.run pins s σ H (fun x H1 => ∃ w m1, Step m H m1 H1 ∧ View X.K m1 H1 ∧ RW X.K H1 w x ∧ match w with
    | .d (.list xs) => ta σ' m1 fun ws m2 => match ws with
      | [.d y] => inOk y xs = true ∧ Q' (.d (.int ((xs.countP fun z => PyData.eqv z y : Nat) : Int))) m2
      | _ => False
    | .d (.tuple xs) => ta σ' m1 fun ws m2 => match ws with
      | [.d y] => inOk y xs = true ∧ Q' (.d (.int ((xs.countP fun z => PyData.eqv z y : Nat) : Int))) m2
      | _ => False
    | _ => False) I ⟨σ', m, _, rs, vw, h, fun w m1 v H1 q e1 vw1 rw1 => ⟨w, m1, e1, vw1, rw1, q⟩⟩) fun v s1 ⟨x, H1, I1, r1, w, m1, e1, vw1, rw1, q1⟩ => ?_)
  split at q1
  · rename_i xs
    cases rw1 with
    | @lst a vs _ hx zx ax =>
      cases r1
      obtain ⟨h1, h2⟩ := isT_list I1 hx.sq
      refine ⟨"list", "list.count", F.plainAttrs_list, F.slot_list_count, F.type_list_count, h1, h2, ?_⟩
      have hA := ha.run cpos pins s1 σ H1 (fun vs H2 => ∃ y m2, Step m H m2 H2 ∧ View X.K m2 H2 ∧ RWs X.K H2 [W.d y] vs ∧ Ext H1 H2 ∧ inOk y xs = true ∧ Q' (.d (.int ((xs.countP fun z => PyData.eqv z y : Nat) : Int))) m2) I1
        ⟨σ', m1, _, rs.ext e1.ext, vw1, q1, fun ws m2 vs H2 q2 e2 vw2 rw2 => by
          split at q2
          · rename_i y
            exact ⟨y, m2, e1.trans e2, vw2, rw2, e2.ext, q2.1, q2.2⟩
          · exact q2.elim⟩
      rw [hs] at hA ⊢
      refine Calls.callWith_builtin (by show (false || (backTo cpos (starEach [] X.env)).any (·.1)) = false; rw [hplain] <;> rfl) (Calls.evalArgs_plain (thn hA fun us s2 ⟨vs, H2, I2, r2, y, m2, e2, vw2, rw2, x2, hi, q2⟩ => ?_))
      obtain ⟨v2, rfl, rw3⟩ := rws1 rw2
      obtain ⟨u2, rfl, ru⟩ := r2.one
      obtain ⟨its, n, rv, ho2⟩ := (Inv.obj I2 (.inr (x2.fzl hx))).2
      obtain ⟨as, rA, _⟩ := FzA.reads I2 (FzA.ext x2 ax) rv
      obtain ⟨bs, rB, _⟩ := Pk.reads I2 (.inl rw3) ru
      simp only [inOk, Bool.and_eq_true, decide_eq_true_eq] at hi
      exact PySem.SeqAt.count_list_data ⟨_, ho2, rfl, _, rfl⟩ rA rB hi.1.1 hi.1.2 (by omega) (eInt (I2.tok _) vw2 (cl.ext e2) q2)
  · rename_i xs
    cases rw1 with
    | @tup a vs _ hx zx ax =>
      cases r1
      obtain ⟨h1, h2⟩ := isT_tup I1 hx
      refine ⟨"tuple", "tuple.count", F.plainAttrs_tuple, F.slot_tuple_count, F.type_tuple_count, h1, h2, ?_⟩
      have hA := ha.run cpos pins s1 σ H1 (fun vs H2 => ∃ y m2, Step m H m2 H2 ∧ View X.K m2 H2 ∧ RWs X.K H2 [W.d y] vs ∧ Ext H1 H2 ∧ inOk y xs = true ∧ Q' (.d (.int ((xs.countP fun z => PyData.eqv z y : Nat) : Int))) m2) I1
        ⟨σ', m1, _, rs.ext e1.ext, vw1, q1, fun ws m2 vs H2 q2 e2 vw2 rw2 => by
          split at q2
          · rename_i y
            exact ⟨y, m2, e1.trans e2, vw2, rw2, e2.ext, q2.1, q2.2⟩
          · exact q2.elim⟩
      rw [hs] at hA ⊢
      refine Calls.callWith_builtin (by show (false || (backTo cpos (starEach [] X.env)).any (·.1)) = false; rw [hplain] <;> rfl) (Calls.evalArgs_plain (thn hA fun us s2 ⟨vs, H2, I2, r2, y, m2, e2, vw2, rw2, x2, hi, q2⟩ => ?_))
      obtain ⟨v2, rfl, rw3⟩ := rws1 rw2
      obtain ⟨u2, rfl, ru⟩ := r2.one
      obtain ⟨its, rv, p2, _⟩ := I2.tuple (x2.fzt hx).sq
      obtain ⟨as, rA, _⟩ := FzA.reads I2 (FzA.ext x2 ax) rv
      obtain ⟨bs, rB, _⟩ := Pk.reads I2 (.inl rw3) ru
      simp only [inOk, Bool.and_eq_true, decide_eq_true_eq] at hi
      exact PySem.SeqAt.count_tuple_data (show s2.heap.IsTuple _ its.toArray from p2) rA rB hi.1.1 hi.1.2 (by omega) (eInt (I2.tok _) vw2 (cl.ext e2) q2)
  · exact q1.elim

/-! ### list * int -/
def rRepL : DR2
  | .d (.list xs), .d (.int k), m, Q => k ≤ 16777216 ∧ -16777216 ≤ k ∧ xs.length * k.toNat ≤ 16777216 ∧ Q (.d (.list (List.replicate k.toNat xs).flatten)) m
  | _, _, _, _ => False
theorem FzA.rep {K : PySem.W.Frag} {H : Hp} {vs : List V} {ds : List PyData} (h : FzA K H vs ds) : ∀ n, FzA K H (List.replicate n vs).flatten (List.replicate n ds).flatten
  | 0 => .nil
  | n + 1 => by
    rw [List.replicate_succ, List.replicate_succ, List.flatten_cons, List.flatten_cons]
    exact h.append (FzA.rep h n)
theorem do_repL : DOp X (binaryOp .Mult) rRepL := by
  intro pins s σ H x y v u Q I rx ry h
  obtain ⟨wx, wy, m, Q', r1, r2, vw, h, cl⟩ := h
  unfold rRepL at h
  split at h
  · rename_i xs k
    cases r2
    cases r1 with
    | @lst a vs _ hx zx ax =>
      cases rx
      obtain ⟨t, rfl⟩ := ry
      obtain ⟨h1, h2, hz, q⟩ := h
      obtain ⟨z, its, n, r, e⟩ := Inv.obj I (.inr hx)
      have hl := r.length
      have hl2 := ax.length
      have hlen : its.toArray.size * k.toNat ≤ sizeLine := by rw [List.size_toArray, ← hl, hl2]; exact le24 hz
      have hcap : ¬ its.toArray.size * k.toNat > (2 ^ 63 - 1) / 8 := by
        have : (sizeLine : Nat) ≤ (2 ^ 63 - 1) / 8 := by decide
        omega
      have hfit : ¬ (!Builtin.List.listFitsIndex k) = true := by
        rw [fitsIndex_both (by omega) (by omega)]
        exact Bool.false_ne_true
      have hlong : ¬ Builtin.List.listTooLong (its.toArray.size * k.toNat) = true := by
        rw [notLongL hlen]
        exact Bool.false_ne_true
      have hnew : List.foldl (fun x1 x2 => x1 ++ x2) #[] (List.replicate (if its.toArray.isEmpty = true then 0 else k.toNat) its.toArray) = (List.replicate k.toNat its).flatten.toArray := by
        have f0 : ∀ m : Nat, List.foldl (fun x1 x2 => x1 ++ x2) #[] (List.replicate m its.toArray) = (List.replicate m its).flatten.toArray := fun m => by
          have := foldl_rep its m []
          rw [List.nil_append] at this
          exact this
        rw [f0]
        cases its with
        | nil => simp
        | cons a r' => rw [if_neg (by simp)]
      refine wpAny_binaryOp_repeat_ref (T := "list") (U := "int") (by decide) ⟨_, e, rfl⟩ (fun s' => typeIs_int s' k t) noFill_list_mul F.fills_int_mul F.slot_int_rmul repeat_list F.slot_int_index.lookup
        (call_meets F.slot_int_rmul (typeIs_int s k t) F.entry_int_rmul (F.args_int_rmul_2 _ _) (int___rmul___int_list k t a its.toArray n)
          ⟨e, rfl, ⟨_, e, rfl⟩, call_meets F.slot_list_mul ⟨_, e, rfl⟩ F.entry_list_mul (F.args_list_mul_2 _ _) (AutoListH.list___mul___list_int_3 a its.toArray n k t hfit hcap hlong) ⟨e, ?_⟩⟩)
      rw [hnew]
      exact Inv.newF (t' := s.toks) I (r.rep k.toNat) (by rw [PyProof.Rows.lm_len_rep_flat, Nat.mul_comm, hl2]; exact le24 hz) (ax.rep k.toNat) vw q cl
  · exact h.elim
end
end DL
end
section
set_option maxHeartbeats 1000000
namespace DL
open PySem PySem.Spec L2
open PyProof.Rows hiding St

/-! ### the end: the law's own call -/
/-- the heap behind the top: the script alone is known, if it is no object of the module -/
def scH (K : PySem.W.Frag) (a : Addr) (vs : List Value) (ns : List Int) : Hp := fun b => if b = a ∧ K.lookup a = none then some (.frz { cls := .type "list", data := .seq vs.toArray } (.lst (ns.map V.int))) else none
theorem scH_some {K : PySem.W.Frag} {a b : Addr} {vs : List Value} {ns : List Int} {u : HO} (h : scH K a vs ns b = some u) : b = a ∧ K.lookup a = none ∧ u = .frz { cls := .type "list", data := .seq vs.toArray } (.lst (ns.map V.int)) := by
  unfold scH at h
  split at h
  · rename_i q
    cases h
    exact ⟨q.1, q.2, rfl⟩
  · cases h
/-- what the law promises of its script: True -/
def LawSp (n : Nat) (sp : DSp) : Prop := ∀ (ns : List Int), ns.length ≤ n → sp [.d (.list (ns.map PyData.int))] (fun _ => none) (fun w _ => w = .d (.bool true)) noX
theorem lawG {P : Program} {w : World} {K : PySem.W.Frag} {mg mb : Str → Option Value} {k n : Nat} {fa a : Addr} {fd : FuncData} {ps : List Str} {sp : DSp} {s₁ : Shared} {vs : List Value} {ns : List Int}
    (KX : K.In s₁.heap) (hns : s₁.heap.Ns mainGlobals mg) (hb : s₁.heap.Ns builtinsNs mb) (hbb : ∀ x : Str, x ≠ "__name__" → mb x = bootBuiltins x) (hlim : s₁.heap.NoLimit) (hg : s₁.gens = #[])
    (ha : s₁.heap.get? a = some { cls := .type "list", data := .seq vs.toArray }) (hi : IntsAre vs ns) (hl : ns.length ≤ sizeLine) (hr : Room k callerA)
    (F : ∀ base : Heap, K.In base → base.Ns mainGlobals mg → FnG P w K mg base CX0 k fa fd ps (lSp K sp)) (hbind : Binds K fd ps []) (hn : ns.length ≤ n) (hsp : LawSp n sp) :
    codeAny (model P w) callerA (.call (.ref fa) ⟨[.ref a], []⟩) (fun r s' => r = .ok (.ret (.bool true)) ∧ OldK s₁.heap s'.heap ∧ s'.os = s₁.os ∧ AllBare s'.gens) s₁ := by
  have rv : Vals (ns.map V.int) vs := vals_ints hi
  have hd : ∀ {b : Addr} {o : Obj}, s₁.heap.get? b = some o → (K.lookup b ≠ none ∨ ∃ es ep, o.data = .dict es ep) → (hidT s₁.heap (scH K a vs ns)).get? b = some o := by
    intro b o e h
    refine hidT_get e ?_
    cases q : scH K a vs ns b with
    | none => rfl
    | some u =>
      obtain ⟨rfl, hk, _⟩ := scH_some q
      rcases h with h | ⟨es, ep, h⟩
      · exact absurd hk h
      · rw [ha] at e
        cases e
        cases h
  have nsK : ∀ {b : Addr} {f : Str → Option Value}, s₁.heap.Ns b f → (hidT s₁.heap (scH K a vs ns)).Ns b f := fun ⟨o, es, ep, e, q, r⟩ => ⟨o, es, ep, hd e (.inr ⟨es, ep, q⟩), q, r⟩
  have hKb : K.In (hidT s₁.heap (scH K a vs ns)) := fun b o e => hd (KX b o e) (.inl (by rw [e]; simp))
  have hok : HOk P w (scH K a vs ns) s₁.heap := fun b u e => by
    obtain ⟨rfl, hk, rfl⟩ := scH_some e
    exact ⟨ha, by rw [List.length_map]; exact hl, vs, _, rv, ha⟩
  obtain ⟨mc, l1, l2⟩ := hlim
  have e0 : Env0 P w K mg (hidT s₁.heap (scH K a vs ns)) callerA [] s₁ (scH K a vs ns) :=
    ⟨rfl, ⟨hKb, nsK hns, ⟨mb, nsK hb, hbb⟩, mc, nsK l1, l2⟩, fun b o e => of_hidT e, Nat.le_of_eq (hidT_size _ _), trivial, fun b q => absurd (show b ∈ ([] : List Addr) from q) (by simp), hok, .of_eq hg⟩
  have FK := F _ hKb (nsK hns)
  have hfz : FzL K (scH K a vs ns) a (ns.map V.int) := by
    cases hk : K.lookup a with
    | none => exact .inl ⟨_, by unfold scH; rw [if_pos ⟨rfl, hk⟩]⟩
    | some o =>
      have e := KX a o hk
      rw [ha] at e
      cases e
      exact .inr ⟨vs, _, hk, by rw [← rv.length, List.length_map]; exact hl, rv⟩
  have hS : lSp K sp [.ref a] (scH K a vs ns) (fun v _ => v = .bl true) fun _ _ _ => True := by
    refine ⟨[.d (.list (ns.map PyData.int))], fun _ => none, fun w _ => w = .d (.bool true), noX, .cons (Fz.lst hfz (by rw [List.length_map]; exact hl) FzA.of_ints) .nil, (fun (b : Addr) (o : MO) (q : (none : Option MO) = some o) => by cases q), hsp ns hn, ?_, fun _ _ _ _ _ z _ _ _ => False.elim z⟩
    rintro w' m1 v H' rfl _ _ r
    cases r
    rfl
  refine codeAny_mono (FK.run callerA [] s₁ (scH K a vs ns) ⟨[.ref a], []⟩ [.ref a] [.ref a] _ _ rfl hr e0 (by simpa using hbind s₁ [.ref a] KX (FK.len _ _ _ _ hS)) (.cons rfl .nil) hS) fun r s' h => ?_
  cases r with
  | error e => exact False.elim h
  | ok fl =>
    cases fl with
    | next => exact False.elim h
    | brk => exact False.elim h
    | cont => exact False.elim h
    | ret u =>
      obtain ⟨v, H', os, bare, un, hok', r', q⟩ := h
      have q' : v = .bl true := q
      subst q'
      have r2 : u = Value.bool true := r'
      subst r2
      refine ⟨rfl, OldK.of_keep fun b o e => ?_, os, bare⟩
      cases z : scH K a vs ns b with
      | none => exact un.keep b o e z (by intro y; exact absurd (show b ∈ ([] : List Addr) from y) (by simp)) (by simp)
      | some y =>
        obtain ⟨rfl, hk, rfl⟩ := scH_some z
        obtain ⟨e2, _⟩ := hok' b _ (un.frzs b _ _ z)
        rw [ha] at e
        cases e
        exact e2
/-- from a body to its def (DFn.mk0), the object in sight -/
theorem FnG.mk0 {P : Program} {w : World} {K : PySem.W.Frag} {mg : Str → Option Value} {base : Heap} {k n : Nat} {x : Str} {st : Stmt} {f : Addr} {fd : FuncData} {N ps : List Str} {sp : DSp} {rd : DTS} (F : Fun K x x st f fd) (S : FnScope N ps (defScope st)) (hs : DL.Takes n sp) (hn : ps.length = n)
    (dv : ∀ (cdv : Value) (A : Around) (outer : List Env) (s : Shared) (H : Hp) (E : XK), Room k (A.deeper (envOfC x (defScope st) s.heap.objs.size f cdv)) → A.guards = some [] → DSs (cxOf CX0 P w K mg base N x (defScope st) f cdv A outer s H E).nox (defBody st) rd)
    (ct : ∀ ws m Q E, sp ws m Q E → rd (dEnds Q) (startD N.length ws) m) : FnG P w K mg base CX0 (k + 1) f fd ps (lSp K sp) := by
  obtain ⟨oc, od, kV, doc, pm, an, cdv, ct', osl, rfl, lk, hcd⟩ := F.ex
  refine fnG_of lk hcd S (lSp_len hs hn) fun A outer s H vs Q E hg hr hsp => ?_
  obtain ⟨ws, m, Q', E', h1, h2, h3, h4, h5⟩ := hsp
  have d := dv cdv A outer s H E hr hg
  refine ⟨_, d.nox, startD N.length ws, m, dEnds Q', rs_start h1, h2, ct _ _ _ _ h3, ⟨?_, ?_, ?_, ?_⟩⟩
  · rintro σ' m1 σ H' ⟨m2, hsub, q⟩ e1 vw1 _
    exact h4 _ m2 _ H' q (e1.sub hsub) (vw1.sub hsub) .non
  · rintro w' m1 v H' ⟨m2, hsub, q⟩ e1 vw1 rw1
    exact h4 _ m2 _ H' q (e1.sub hsub) (vw1.sub hsub) rw1
  · rintro σ' m1 σ H' q
    exact False.elim q
  · rintro σ' m1 σ H' q
    exact False.elim q
theorem walk_ofG {l : PySem.W.OpenLaw} {n k : Nat} {q : Program} {loose : List Str} {XP : (Str → Option Value) → Heap → Prop} {YP : World → Heap → Prop} {d : DefRec} {K : Params → PySem.W.Frag} {sp : DSp}
    (hn : l.most = some n) (hn2 : n ≤ sizeLine) (hdf : d.params.defaults = []) (hr : Room k callerA)
    (hY : ∀ (w : World) (h : Heap), YP w h → (K w.params).In h)
    (F : ∀ (w : World) (mg : Str → Option Value) (fa : Addr) (h : Heap), (K w.params).In h → h.Ns mainGlobals mg → mg d.name = some (.ref fa) →
      ∃ (fd : FuncData) (ps : List Str), Binds (K w.params) fd ps [] ∧ ∀ base : Heap, (K w.params).In base → base.Ns mainGlobals mg → FnG l.prog w (K w.params) mg base CX0 k fa fd ps (lSp (K w.params) sp))
    (hsp : LawSp n sp) :
    PySem.W.WalkO q loose XP YP l.row.toRowW d [] (fun f vs => PySem.call f vs) := by
  refine Att.attach_call hn hdf fun w s₀ s₁ mg mb fa o pm cd doc a vs ns G Y ho hd hcd hmg hobj hints hlen hg => ?_
  have KX := hY w _ Y
  obtain ⟨fd, ps, hb, hF⟩ := F w mg fa _ KX G.T.g hmg
  exact lawG KX G.T.g G.T.b G.T.builtins G.T.nolimit hg hobj hints (Nat.le_trans hlen hn2) hr hF hb hlen hsp
end DL
end
section
set_option maxHeartbeats 1000000
namespace DL
open PySem PySem.Spec L2
open PyProof.Rows hiding St

/-! ### loops in readings -/
theorem dEnds_rt {Q : DK} {w : W} {m : MM} (h : Q w m) : (dEnds Q).rt w m := ⟨m, .refl m, h⟩
theorem compW_fm {g : DTG} {tt : DTT} {te : DTE} {σ : DS} {m : MM} {Q : List PyData → MM → Prop} (f : W → Option PyData) : ∀ (ws : List W) (acc : List PyData),
    (∀ w, w ∈ ws → ∀ (k1 : PyData → MM → Prop) (k0 : MM → Prop), (∀ y, f w = some y → k1 y m) → (f w = none → k0 m) → g w σ m fun σ' m' => tt σ' m' fun b m2 => if b = true then te σ' m2 fun y m3 => (match y with | .d y => k1 y m3 | _ => False) else k0 m2) →
    Q (acc ++ ws.filterMap f) m → compW g tt te σ ws acc m Q
  | [], acc, _, q => by simpa [compW] using q
  | w :: ws, acc, h, q => by
    refine h w (by simp) (fun y m3 => compW g tt te σ ws (acc ++ [y]) m3 Q) (fun m2 => compW g tt te σ ws acc m2 Q) (fun y e => ?_) fun e => ?_
    · exact compW_fm f ws _ (fun w hw => h w (by simp [hw])) (by simpa [e, List.append_assoc] using q)
    · exact compW_fm f ws _ (fun w hw => h w (by simp [hw])) (by simpa [e] using q)
/-- .. where the memory changes -/
theorem compW_inv {g : DTG} {tt : DTT} {te : DTE} {σ : DS} {Q : List PyData → MM → Prop} (P : List W → List PyData → MM → Prop) (hs : ∀ w ws acc m (k1 : PyData → MM → Prop) (k0 : MM → Prop), P (w :: ws) acc m → (∀ y m', P ws (acc ++ [y]) m' → k1 y m') → (∀ m', P ws acc m' → k0 m') →
      g w σ m fun σ' m' => tt σ' m' fun b m2 => if b = true then te σ' m2 fun y m3 => (match y with | .d y => k1 y m3 | _ => False) else k0 m2) (he : ∀ acc m, P [] acc m → Q acc m) : ∀ (ws : List W) (acc : List PyData) (m : MM), P ws acc m → compW g tt te σ ws acc m Q
  | [], acc, m, p => he acc m p
  | w :: ws, acc, m, p => hs w ws acc m (fun y m3 => compW g tt te σ ws (acc ++ [y]) m3 Q) (fun m2 => compW g tt te σ ws acc m2 Q) p (fun y m' p' => compW_inv P hs he ws _ m' p') fun m' p' => compW_inv P hs he ws _ m' p'
theorem forW_inv {g : DTG} {tb : DTS} {D : DEnds} (P : List W → DS → MM → Prop) (hs : ∀ w ws σ m (N : DS → MM → Prop), P (w :: ws) σ m → (∀ σ' m', P ws σ' m' → N σ' m') → g w σ m fun σ' m' => tb { nx := N, ct := N, bk := D.nx, rt := D.rt } σ' m')
    (he : ∀ σ m, P [] σ m → D.nx σ m) : ∀ (ws : List W) (σ : DS) (m : MM), P ws σ m → forW g tb D ws σ m
  | [], σ, m, p => he σ m p
  | w :: ws, σ, m, p => hs w ws σ m (forW g tb D ws) p fun σ' m' p' => forW_inv P hs he ws σ' m' p'
theorem whileW_inv {c : DTT} {tb : DTS} {D : DEnds} (P : Nat → DS → MM → Prop) (hs : ∀ n σ m (N : DS → MM → Prop), P n σ m → (∀ k σ' m', k < n → P k σ' m' → N σ' m') → c σ m fun b m1 => if b = true then tb { nx := N, ct := N, bk := D.nx, rt := D.rt } σ m1 else D.nx σ m1) {n : Nat} {σ : DS} {m : MM} (p : P n σ m) :
    dWhile c tb D σ m := by
  have key : ∀ n k σ m, k ≤ n → P k σ m → whileW c tb D (n + 1) σ m := by
    intro n
    induction n with
    | zero => exact fun k σ m hk p => hs k σ m (whileW c tb D 0) p fun j σ' m' hj _ => by omega
    | succ n ih => exact fun k σ m hk p => hs k σ m (whileW c tb D (n + 1)) p fun j σ' m' hj p' => ih j σ' m' (by omega) p'
  exact ⟨n + 1, key n n σ m (Nat.le_refl _) p⟩

/-! ### the pen -/
def PenO (o : MO) : Prop := ∃ x y z : Int, o = .lst [.d (.int x), .d (.int y), .d (.int z)] ∧ 0 ≤ y ∧ y < 4294967296
def PenAt (m : MM) (a : Addr) : Prop := ∃ o, m a = some o ∧ PenO o
theorem PenAt.set {m : MM} {a : Addr} {o : MO} (h : PenO o) : PenAt (mset m a o) a := ⟨o, mset_same, h⟩
def sp_law_cell : DSp := fun ws m Q _ => ∃ (xs : List Int) (k : Int), ws = [.d (.list (xs.map PyData.int)), .d (.int k)] ∧ 0 ≤ k ∧ ∀ c, Q (.d (.int c)) m
def sp_law_pen : DSp := fun ws m Q _ => ∃ c : Int, ws = [.d (.int c)] ∧ ∀ a o, m a = none → PenO o → Q (.v (.ref a)) (mset m a o)
def sp_law_draw : DSp := fun ws m Q _ => ∃ a n, ws = [.v (.ref a), .d (.int n)] ∧ 0 < n ∧ n < 1073741824 ∧ PenAt m a ∧ ∀ k o, 0 ≤ k → k < n → PenO o → Q (.d (.int k)) (mset m a o)
theorem tk_law_cell : Takes 2 sp_law_cell := by rintro ws m Q E ⟨xs, k, rfl, _⟩; rfl
theorem tk_law_pen : Takes 1 sp_law_pen := by rintro ws m Q E ⟨xs, rfl, _⟩; rfl
theorem tk_law_draw : Takes 2 sp_law_draw := by rintro ws m Q E ⟨xs, k, rfl, _⟩; rfl
end DL
end
section
set_option maxHeartbeats 1000000
namespace DL
open PySem PySem.Spec L2
open PyProof.Rows hiding St
section
variable {m : MM} {Q : DK} {a b : PyData} {i j : Int} {w w0 w1 w2 w3 w4 w5 w6 w7 w8 : Option W} {x : W} {σ : DS} {xs ys : List PyData} {p : Addr} {ws : List W} {C : Int → Int → Prop} {g : Int → Int → Int} {gb : Bool → Bool}
  {gi : Int → Int → Bool} {gd : PyData → PyData → Bool}
theorem sx_v0 : dVar 0 (some x :: σ) m Q = Q x m := rfl
theorem sx_v1 : dVar 1 (w0 :: some x :: σ) m Q = Q x m := rfl
theorem sx_v2 : dVar 2 (w0 :: w1 :: some x :: σ) m Q = Q x m := rfl
theorem sx_v3 : dVar 3 (w0 :: w1 :: w2 :: some x :: σ) m Q = Q x m := rfl
theorem sx_v4 : dVar 4 (w0 :: w1 :: w2 :: w3 :: some x :: σ) m Q = Q x m := rfl
theorem sx_v5 : dVar 5 (w0 :: w1 :: w2 :: w3 :: w4 :: some x :: σ) m Q = Q x m := rfl
theorem sx_v6 : dVar 6 (w0 :: w1 :: w2 :: w3 :: w4 :: w5 :: some x :: σ) m Q = Q x m := rfl
theorem sx_v7 : dVar 7 (w0 :: w1 :: w2 :: w3 :: w4 :: w5 :: w6 :: some x :: σ) m Q = Q x m := rfl
theorem sx_v8 : dVar 8 (w0 :: w1 :: w2 :: w3 :: w4 :: w5 :: w6 :: w7 :: some x :: σ) m Q = Q x m := rfl
theorem sx_v9 : dVar 9 (w0 :: w1 :: w2 :: w3 :: w4 :: w5 :: w6 :: w7 :: w8 :: some x :: σ) m Q = Q x m := rfl
theorem sx_addI : rAdd (.d (.int i)) (.d (.int j)) m Q = Q (.d (.int (i + j))) m := rfl
theorem sx_addT : rAdd (.d (.tuple xs)) (.d (.tuple ys)) m Q = (xs.length + ys.length ≤ 16777216 ∧ Q (.d (.tuple (xs ++ ys))) m) := rfl
theorem sx_addL : rAdd (.d (.list xs)) (.d (.list ys)) m Q = (xs.length + ys.length ≤ 16777216 ∧ Q (.d (.list (xs ++ ys))) m) := rfl
theorem sx_int : rInt C g (.d (.int i)) (.d (.int j)) m Q = (C i j ∧ Q (.d (.int (g i j))) m) := rfl
theorem sx_int0 : rInt0 g (.d (.int i)) (.d (.int j)) m Q = Q (.d (.int (g i j))) m := rfl
theorem sx_neg : rNeg (.d (.int i)) m Q = Q (.d (.int (-i))) m := rfl
theorem sx_eq : rEq (.d a) (.d b) m Q = (pairOk a b = true ∧ Q (.d (.bool (PyData.eqv a b))) m) := rfl
theorem sx_ne : rNe (.d a) (.d b) m Q = (pairOk a b = true ∧ Q (.d (.bool (!PyData.eqv a b))) m) := rfl
theorem eqv_int : PyData.eqv (.int i) (.int j) = decide (i = j) := by
  rw [Bool.eq_iff_iff]
  simp [PyData.eqv]
theorem sx_eqI : rEq (.d (.int i)) (.d (.int j)) m Q = Q (.d (.bool (decide (i = j)))) m := by
  rw [sx_eq, eqv_int]
  have : pairOk (.int i) (.int j) = true := rfl
  simp [this]
theorem sx_neI : rNe (.d (.int i)) (.d (.int j)) m Q = Q (.d (.bool (!decide (i = j)))) m := by
  rw [sx_ne, eqv_int]
  have : pairOk (.int i) (.int j) = true := rfl
  simp [this]
theorem sx_ordI : rOrd gi gd (.d (.int i)) (.d (.int j)) m Q = Q (.d (.bool (gi i j))) m := rfl
theorem sx_ordT : rOrd gi gd (.d (.tuple xs)) (.d (.tuple ys)) m Q = (ordOk (.tuple xs) (.tuple ys) = true ∧ Q (.d (.bool (gd (.tuple xs) (.tuple ys)))) m) := rfl
theorem sx_inL : rIn gb (.d a) (.d (.list ys)) m Q = (inOk a ys = true ∧ Q (.d (.bool (gb (ys.any fun z => PyData.eqv z a)))) m) := rfl
theorem sx_inT : rIn gb (.d a) (.d (.tuple ys)) m Q = (inOk a ys = true ∧ Q (.d (.bool (gb (ys.any fun z => PyData.eqv z a)))) m) := rfl
theorem peek_mem (h : m p = some (.lst ws)) : peek m (.v (.ref p)) = (datas ws).map PyData.list := by
  show (match m p with | some (.lst ws) => (datas ws).map PyData.list | _ => none) = _
  rw [h]
theorem sx_inM (h : m p = some (.lst ws)) (hd : datas ws = some ys) : rIn gb (.d a) (.v (.ref p)) m Q = (inOk a ys = true ∧ Q (.d (.bool (gb (ys.any fun z => PyData.eqv z a)))) m) := by
  unfold rIn
  rw [peek_mem h, hd]
  rfl
theorem sx_isN : rIs gb (.d a) (.d .none) m Q = Q (.d (.bool (gb (isNon (.d a))))) m := rfl
theorem sx_isi_int : rIsi [.d a, .v (.ty "int")] m Q = Q (.d (.bool a.isInt)) m := rfl
theorem sx_isi_bool : rIsi [.d a, .v (.ty "bool")] m Q = Q (.d (.bool a.isBool)) m := rfl
theorem sx_isi_str : rIsi [.d a, .v (.ty "str")] m Q = Q (.d (.bool a.isStr)) m := rfl
theorem sx_isi_tuple : rIsi [.d a, .v (.ty "tuple")] m Q = Q (.d (.bool a.isTuple)) m := rfl
theorem sx_isi_list : rIsi [.d a, .v (.ty "list")] m Q = Q (.d (.bool a.isList)) m := rfl
theorem sx_isi_dict : rIsi [.d a, .v (.ty "dict")] m Q = Q (.d (.bool a.isDict)) m := rfl
theorem sx_lenL : rLen [.d (.list xs)] m Q = Q (.d (.int xs.length)) m := rfl
theorem sx_lenT : rLen [.d (.tuple xs)] m Q = Q (.d (.int xs.length)) m := rfl
theorem sx_lenM (h : m p = some (.lst ws)) : rLen [.v (.ref p)] m Q = Q (.d (.int ws.length)) m := by
  show (match m p with | some (.lst ws) => Q (.d (.int ws.length)) m | _ => False) = _
  rw [h]
/-- what stands at an index -/
def atQ {α : Type} (o : Option α) (k : α → Prop) : Prop := match o with | some x => k x | none => False
theorem atQ_some {α : Type} {x : α} {k : α → Prop} : atQ (some x) k = k x := rfl
theorem sx_ixL : rIx (.d (.list xs)) (.d (.int i)) m Q = atQ (atI xs i) fun d => Q (.d d) m := by
  unfold rIx atQ
  dsimp only
  cases atI xs i <;> rfl
theorem sx_ixT : rIx (.d (.tuple xs)) (.d (.int i)) m Q = atQ (atI xs i) fun d => Q (.d d) m := by
  unfold rIx atQ
  dsimp only
  cases atI xs i <;> rfl
theorem sx_ixM (h : m p = some (.lst ws)) : rIx (.v (.ref p)) (.d (.int i)) m Q = atQ (atI ws i) fun w => Q w m := by
  show (match m p with | some (.lst ws) => (match atI ws i with | some w => Q w m | none => False) | _ => False) = _
  rw [h]
  unfold atQ
  dsimp only
  cases atI ws i <;> rfl
theorem at0 {α : Type} {x : α} {l : List α} : atI (x :: l) 0 = some x := by simp [atI, ixN]
theorem at1 {α : Type} {x y : α} {l : List α} : atI (x :: y :: l) 1 = some y := by
  have : ((1 : Int) < (l.length : Int) + 1 + 1) := by omega
  simp [atI, ixN, this]
theorem at2 {α : Type} {x y z : α} {l : List α} : atI (x :: y :: z :: l) 2 = some z := by
  have : ((2 : Int) < (l.length : Int) + 1 + 1 + 1) := by omega
  simp [atI, ixN, this]
theorem ixN30 : ixN 3 0 = some 0 := rfl
theorem ixN31 : ixN 3 1 = some 1 := rfl
theorem ixN32 : ixN 3 2 = some 2 := rfl
theorem sx_setM {to ti te : DTE} {D : DEnds} (k : ∀ Q, to σ m Q = Q (.v (.ref p)) m) : True := trivial
def setQ (ws : List W) (i : Int) (w : W) (k : List W → Prop) : Prop := match ixN ws.length i with | some j => k (ws.set j w) | none => False
/-- the store itself -/
def rSet (o i w : W) (m : MM) (k : MM → Prop) : Prop := match o, i with
  | .v (.ref a), .d (.int z) => (match m a with
    | some (.lst ws) => setQ ws z w fun us => k (mset m a (.lst us))
    | _ => False)
  | _, _ => False
theorem sx_setIx {to ti te : DTE} {D : DEnds} : dSetIx to ti te D σ m = te σ m fun w m0 => to σ m0 fun o m1 => ti σ m1 fun i m2 => rSet o i w m2 fun m3 => D.nx σ m3 := by
  show (te σ m fun w m0 => to σ m0 fun o m1 => ti σ m1 fun i m2 => match o, i with
  | .v (.ref a), .d (.int k) => (match m2 a with
    | some (.lst ws) => (match ixN ws.length k with | some j => D.nx σ (mset m2 a (.lst (ws.set j w))) | none => False)
    | _ => False)
  | _, _ => False) = _
  congr 1
theorem sx_set {k : MM → Prop} (h : m p = some (.lst ws)) : rSet (.v (.ref p)) (.d (.int i)) x m k = setQ ws i x fun us => k (mset m p (.lst us)) := by
  unfold rSet
  simp only [h]
theorem sx_set0 {k : List W → Prop} {y : W} : setQ (y :: ws) 0 x k = k (x :: ws) := by simp [setQ, ixN]
theorem sx_set1 {k : List W → Prop} {y z : W} : setQ (y :: z :: ws) 1 x k = k (y :: x :: ws) := by
  have : ((1 : Int) < (ws.length : Int) + 1 + 1) := by omega
  simp [setQ, ixN, this]
theorem sx_set2 {k : List W → Prop} {y z u : W} : setQ (y :: z :: u :: ws) 2 x k = k (y :: z :: x :: ws) := by
  have : ((2 : Int) < (ws.length : Int) + 1 + 1 + 1) := by omega
  simp [setQ, ixN, this]
theorem sx_slL {lo hi : Option Int} : rSl (.d (.list xs)) lo hi m Q = Q (.d (.list (cut xs lo hi))) m := rfl
theorem sx_slT {lo hi : Option Int} : rSl (.d (.tuple xs)) lo hi m Q = Q (.d (.tuple (cut xs lo hi))) m := rfl
theorem sx_bools {gl : List Bool → Bool} {l : List Bool} (h : boolsOf xs = some l) : rBools gl [.d (.list xs)] m Q = Q (.d (.bool (gl l))) m := by
  show (match boolsOf xs with | some bs => Q (.d (.bool (gl bs))) m | none => False) = _
  rw [h]
theorem sx_tupL : rTuple [.d (.list xs)] m Q = Q (.d (.tuple xs)) m := rfl
theorem sx_tupT : rTuple [.d (.tuple xs)] m Q = Q (.d (.tuple xs)) m := rfl
theorem sx_listL : rList [.d (.list xs)] m Q = Q (.d (.list xs)) m := rfl
theorem sx_listT : rList [.d (.tuple xs)] m Q = Q (.d (.list xs)) m := rfl
theorem sx_sortL : rSorted [.d (.list xs)] m Q = (sortOk xs = true ∧ Q (.d (.list (sortD xs))) m) := rfl
theorem sx_sortT : rSorted [.d (.tuple xs)] m Q = (sortOk xs = true ∧ Q (.d (.list (sortD xs))) m) := rfl
theorem sx_sortM (h : m p = some (.lst ws)) (hd : datas ws = some ys) : rSorted [.v (.ref p)] m Q = (sortOk ys = true ∧ Q (.d (.list (sortD ys))) m) := by
  unfold rSorted
  simp only [peek_mem h, hd, Option.map_some]
theorem sx_int2 : rInt2 g [.d (.int i), .d (.int j)] m Q = Q (.d (.int (g i j))) m := rfl
theorem sx_toI : rToInt [.d (.int i)] m Q = Q (.d (.int i)) m := rfl
theorem sx_toB {c : Bool} : rToInt [.d (.bool c)] m Q = Q (.d (.int (if c then 1 else 0))) m := rfl
theorem sx_repr : rRepr [.d a] m Q = (ReprOk a ∧ Q (.d (.str a.shown)) m) := rfl
theorem sx_repL : rRepL (.d (.list xs)) (.d (.int i)) m Q = (i ≤ 16777216 ∧ -16777216 ≤ i ∧ xs.length * i.toNat ≤ 16777216 ∧ Q (.d (.list (List.replicate i.toNat xs).flatten)) m) := rfl
theorem istup_t : (PyData.tuple xs).isTuple = true := rfl
theorem istup_l : (PyData.list xs).isTuple = false := rfl
theorem isint_i : (PyData.int i).isInt = true := rfl
theorem isbool_i : (PyData.int i).isBool = false := rfl
theorem datas_n : datas [] = some [] := rfl
theorem datas_c {d : PyData} : datas (.d d :: ws) = (datas ws).map (d :: ·) := rfl
end
end DL
end
section
set_option maxHeartbeats 1000000
namespace DL
open PySem PySem.Spec L2
open PyProof.Rows hiding St
open PySem.W (Datum DatumOrd)
section
variable {α : Type} [DecidableEq α] [Datum α]
theorem pairOk_D (h : Datum.depth α ≤ 64) (a b : α) : pairOk (Datum.toD a) (Datum.toD b) = true := by
  unfold pairOk
  rw [Datum.plain, Datum.plain]
  have := Datum.depth_le a
  simp only [Bool.true_and, decide_eq_true_eq]
  omega
theorem inOk_D (h : Datum.depth α ≤ 64) (x : α) (xs : List α) : inOk (Datum.toD x) (xs.map Datum.toD) = true := by
  unfold inOk
  rw [PySem.W.plainAll_map, Datum.plain]
  have := Datum.depth_le x
  simp only [Bool.true_and, decide_eq_true_eq]
  omega
theorem any_Dm (x : α) (xs : List α) : ((xs.map Datum.toD).any fun d => PyData.eqv d (Datum.toD x)) = true ↔ x ∈ xs := by
  rw [PySem.W.any_datum xs x]
  exact decide_eq_true_iff
theorem any_D (x : α) (xs : List α) : ((xs.map Datum.toD).any fun d => PyData.eqv d (Datum.toD x)) = decide (x ∈ xs) := PySem.W.any_datum xs x
end
section
variable {α : Type} [DecidableEq α] [DatumOrd α]
theorem ordOk_D (h : Datum.depth α ≤ 64) (a b : α) : ordOk (Datum.toD a) (Datum.toD b) = true := by
  have h0 := DatumOrd.alike a b
  have h1 := Datum.depth_le a
  have h2 := DatumOrd.notNone a
  generalize Datum.toD a = d at h0 h1 h2 ⊢
  unfold ordOk
  rw [h0]
  have h4 : decide (min d.depth (Datum.toD b).depth ≤ 64) = true := decide_eq_true (by omega)
  rw [h4]
  cases d <;> first | rfl | exact absurd rfl h2
def leD (a b : α) : Bool := !DatumOrd.lt b a
theorem sortD_D (xs : List α) : sortD (xs.map Datum.toD) = (xs.mergeSort leD).map Datum.toD := by
  unfold sortD
  rw [List.map_mergeSort]
  intro a _ b _
  show (!DatumOrd.lt b a) = _
  rw [PySem.W.dataLe_eq]
  show _ = !PySem.W.dataLt (Datum.toD b) (Datum.toD a)
  rw [DatumOrd.lt_eq]
theorem sortOk_D (h : Datum.depth α ≤ 64) (xs : List α) (hk : (∀ a : α, neTup (Datum.toD a) = true) ∨ ∀ a : α, noTup (Datum.toD a) = true) : sortOk (xs.map Datum.toD) = true := by
  unfold sortOk
  simp only [Bool.and_eq_true, Bool.or_eq_true, List.all_eq_true, List.mem_map, forall_exists_index, and_imp, decide_eq_true_eq]
  refine ⟨⟨?_, ?_⟩, ?_⟩
  · rintro _ a _ rfl _ b _ rfl
    exact DatumOrd.alike a b
  · rcases hk with hk | hk
    · exact .inl (by rintro _ a _ rfl; exact hk a)
    · exact .inr (by rintro _ a _ rfl; exact hk a)
  · rintro _ a _ rfl
    exact Nat.le_trans (Datum.depth_le a) h
end
/-! ### the shapes of the aim -/
abbrev pr (p : Int × Int) : PyData := .tuple [.int p.1, .int p.2]
abbrev tI (xs : List Int) : PyData := .tuple (xs.map PyData.int)
abbrev tP (ps : List (Int × Int)) : PyData := .tuple (ps.map pr)
theorem toD_int : (Datum.toD : Int → PyData) = PyData.int := rfl
theorem toD_pr : (Datum.toD : Int × Int → PyData) = pr := rfl
theorem pairOk_II (xs ys : List Int) : pairOk (.list (xs.map PyData.int)) (.list (ys.map PyData.int)) = true := pairOk_D (α := List Int) (by decide) xs ys
theorem eqv_II (xs ys : List Int) : PyData.eqv (.list (xs.map PyData.int)) (.list (ys.map PyData.int)) = decide (xs = ys) := Datum.eqv (α := List Int) xs ys
theorem pairOk_PP (xs ys : List (Int × Int)) : pairOk (.list (xs.map pr)) (.list (ys.map pr)) = true := pairOk_D (α := List (Int × Int)) (by decide) xs ys
theorem eqv_PP (xs ys : List (Int × Int)) : PyData.eqv (.list (xs.map pr)) (.list (ys.map pr)) = decide (xs = ys) := Datum.eqv (α := List (Int × Int)) xs ys
theorem inOk_I (x : Int) (xs : List Int) : inOk (.int x) (xs.map PyData.int) = true := inOk_D (α := Int) (by decide) x xs
theorem any_I (x : Int) (xs : List Int) : ((xs.map PyData.int).any fun d => PyData.eqv d (.int x)) = decide (x ∈ xs) := any_D (α := Int) x xs
theorem inOk_P (x : Int × Int) (xs : List (Int × Int)) : inOk (pr x) (xs.map pr) = true := inOk_D (α := Int × Int) (by decide) x xs
theorem any_P (x : Int × Int) (xs : List (Int × Int)) : ((xs.map pr).any fun d => PyData.eqv d (pr x)) = decide (x ∈ xs) := by
  rw [Bool.eq_iff_iff, decide_eq_true_iff]
  exact any_Dm (α := Int × Int) x xs
theorem countP_P (x : Int × Int) (xs : List (Int × Int)) : ((xs.map pr).countP fun d => PyData.eqv d (pr x)) = xs.countP fun y => decide (y = x) := PySem.W.count_datum (α := Int × Int) xs x
theorem sortOk_I (xs : List Int) : sortOk (xs.map PyData.int) = true := sortOk_D (α := Int) (by decide) xs (.inr fun _ => rfl)
theorem sortOk_P (xs : List (Int × Int)) : sortOk (xs.map pr) = true := sortOk_D (α := Int × Int) (by decide) xs (.inl fun _ => rfl)
def sortI (xs : List Int) : List Int := xs.mergeSort fun a b => decide (a ≤ b)
/-- pairs in their order -/
def ltP (p q : Int × Int) : Bool := decide (p.1 < q.1 ∨ (p.1 = q.1 ∧ p.2 < q.2))
def sortP (xs : List (Int × Int)) : List (Int × Int) := xs.mergeSort fun a b => !ltP b a
theorem sortD_I (xs : List Int) : sortD (xs.map PyData.int) = (sortI xs).map PyData.int := by
  have h := sortD_D (α := Int) xs
  have e : (leD : Int → Int → Bool) = fun a b => decide (a ≤ b) := by
    funext a b
    show (!decide (b < a)) = _
    rw [Bool.eq_iff_iff]
    simp
  rw [e] at h
  exact h
theorem lt_P (p q : Int × Int) : DatumOrd.lt p q = ltP p q := by
  show (if p.1 = q.1 then decide (p.2 < q.2) else decide (p.1 < q.1)) = _
  unfold ltP
  split
  · rename_i e
    rw [Bool.eq_iff_iff]
    simp [e]
  · rename_i e
    rw [Bool.eq_iff_iff]
    simp [e]
theorem sortD_P (xs : List (Int × Int)) : sortD (xs.map pr) = (sortP xs).map pr := by
  have h := sortD_D (α := Int × Int) xs
  have e : (leD : Int × Int → Int × Int → Bool) = fun a b => !ltP b a := by
    funext a b
    show (!DatumOrd.lt b a) = _
    rw [lt_P]
  rw [e] at h
  exact h
theorem ordOk_P (p q : Int × Int) : ordOk (pr p) (pr q) = true := ordOk_D (α := Int × Int) (by decide) p q
theorem ordOk_I (p q : Int) : ordOk (.int p) (.int q) = true := ordOk_D (α := Int) (by decide) p q
theorem dataLt_P (p q : Int × Int) : PySem.W.dataLt (pr p) (pr q) = ltP p q := (DatumOrd.lt_eq p q).trans (lt_P p q)
/-- < of any two that are ordered -/
theorem sx_lt {a b : PyData} {m : MM} {Q : DK} (h : ordOk a b = true) (q : Q (.d (.bool (PySem.W.dataLt a b))) m) : rLt (.d a) (.d b) m Q := by
  cases a <;> cases b <;> first | exact ⟨h, q⟩ | (rw [PySem.W.dataLt_int] at q; exact q)

/-! ### comprehensions over lists, ranges, zips -/
section
variable {g : DTG} {tt : DTT} {te : DTE} {σ : DS} {m : MM} {Q : List PyData → MM → Prop}
/-- one turn of a comprehension -/
abbrev Turn1 (g : DTG) (tt : DTT) (te : DTE) (σ : DS) (m : MM) (w : W) (k1 : PyData → MM → Prop) (k0 : MM → Prop) : Prop :=
  g w σ m fun σ' m' => tt σ' m' fun b m2 => if b = true then te σ' m2 fun y m3 => (match y with | .d y => k1 y m3 | _ => False) else k0 m2
theorem compW_fd {xs : List PyData} (f : PyData → Option PyData) (h : ∀ x, x ∈ xs → ∀ (k1 : PyData → MM → Prop) (k0 : MM → Prop), (∀ y, f x = some y → k1 y m) → (f x = none → k0 m) → Turn1 g tt te σ m (.d x) k1 k0) (q : Q (xs.filterMap f) m) :
    compW g tt te σ (xs.map W.d) [] m Q := by
  refine compW_fm (fun w => match w with | .d x => f x | _ => none) _ _ (fun w hw k1 k0 h1 h0 => ?_) ?_
  · obtain ⟨x, hx, rfl⟩ := List.mem_map.mp hw
    exact h x hx k1 k0 h1 h0
  · rw [List.nil_append, List.filterMap_map]
    exact q
theorem compW_md {xs : List PyData} (f : PyData → PyData) (h : ∀ x, x ∈ xs → ∀ (k1 : PyData → MM → Prop) (k0 : MM → Prop), k1 (f x) m → Turn1 g tt te σ m (.d x) k1 k0) (q : Q (xs.map f) m) : compW g tt te σ (xs.map W.d) [] m Q := by
  refine compW_fd (fun x => some (f x)) (fun x hx k1 k0 h1 _ => h x hx k1 k0 (h1 _ rfl)) ?_
  have e : xs.filterMap (fun x => some (f x)) = xs.map f := by
    have := List.filterMap_eq_map (f := f)
    exact congrFun this xs
  rw [e]
  exact q
theorem zipW_mem : ∀ {xs ys : List PyData} {w : W}, w ∈ zipW xs ys → ∃ x y, x ∈ xs ∧ y ∈ ys ∧ w = .p [x, y]
  | [], _, _, h => by simp [zipW] at h
  | x :: xs, [], _, h => by simp [zipW] at h
  | x :: xs, y :: ys, w, h => by
    have h' : w ∈ W.p [x, y] :: zipW xs ys := h
    rcases List.mem_cons.mp h' with rfl | h'
    · exact ⟨x, y, by simp, by simp, rfl⟩
    · obtain ⟨a, b, ha, hb, e⟩ := zipW_mem h'
      exact ⟨a, b, by simp [ha], by simp [hb], e⟩
theorem boolsOf_f {α : Type} (f : α → Bool) (xs : List α) : boolsOf (xs.map fun x => PyData.bool (f x)) = some (xs.map f) := by
  have := boolsOf_map (xs.map f)
  rwa [List.map_map] at this
theorem boolsOf_z (f : PyData → PyData → Bool) : ∀ (xs ys : List PyData), boolsOf (List.zipWith (fun x y => PyData.bool (f x y)) xs ys) = some (List.zipWith f xs ys)
  | [], _ => rfl
  | _ :: _, [] => rfl
  | x :: xs, y :: ys => by
    show (boolsOf (List.zipWith (fun x y => PyData.bool (f x y)) xs ys)).map (f x y :: ·) = _
    rw [boolsOf_z f xs ys]
    rfl
theorem compW_mz {xs ys : List PyData} (f : PyData → PyData → PyData) (h : ∀ x y, x ∈ xs → y ∈ ys → ∀ (k1 : PyData → MM → Prop) (k0 : MM → Prop), k1 (f x y) m → Turn1 g tt te σ m (.p [x, y]) k1 k0) (q : Q (List.zipWith f xs ys) m) : compW g tt te σ (zipW xs ys) [] m Q := by
  refine compW_fm (fun w => match w with | .p [x, y] => some (f x y) | _ => none) _ _ (fun w hw k1 k0 h1 _ => ?_) ?_
  · obtain ⟨x, y, hx, hy, rfl⟩ := zipW_mem hw
    exact h x y hx hy k1 k0 (h1 _ rfl)
  · have e : ∀ xs ys : List PyData, (zipW xs ys).filterMap (fun w => match w with | .p [x, y] => some (f x y) | _ => none) = List.zipWith f xs ys := by
      intro xs
      induction xs with
      | nil => intro ys; rfl
      | cons x xs ih =>
        intro ys
        cases ys with
        | nil => rfl
        | cons y ys =>
          show f x y :: (zipW xs ys).filterMap _ = _
          rw [ih ys]
          rfl
    rw [List.nil_append, e]
    exact q
theorem compW_fr {lo : Int} {n : Nat} (f : Int → Option PyData) (h : ∀ i : Nat, i < n → ∀ (k1 : PyData → MM → Prop) (k0 : MM → Prop), (∀ y, f (lo + i) = some y → k1 y m) → (f (lo + i) = none → k0 m) → Turn1 g tt te σ m (.d (.int (lo + i))) k1 k0)
    (q : Q ((List.range n).filterMap fun i => f (lo + (i : Nat))) m) : compW g tt te σ (rangeW lo n) [] m Q := by
  refine compW_fm (fun w => match w with | .d (.int i) => f i | _ => none) _ _ (fun w hw k1 k0 h1 h0 => ?_) ?_
  · unfold rangeW at hw
    obtain ⟨i, hi, rfl⟩ := List.mem_map.mp hw
    exact h i (List.mem_range.mp hi) k1 k0 h1 h0
  · unfold rangeW
    rw [List.nil_append, List.filterMap_map]
    exact q
end
end DL
end
section
set_option maxHeartbeats 1000000
namespace DL
open PySem PySem.Spec L2
open PyProof.Rows hiding St
abbrev N_law_cell : List Str := ["_law_script", "_law_k"]
def rd_law_cell : DTS := (dRet (dIf (dTest (dOp rLt (dVar 1) (dCall rLen (dCons (dVar 0) dNil)))) (dOp rIx (dVar 0) (dVar 1)) (dC (.int 0))))

abbrev N_law_pen : List Str := ["_law_cell_here"]
def rd_law_pen : DTS := (dRet (dLst (dCons (dCall rMax2 (dCons (dC (.int 0)) (dCons (dOp rSub (dVar 0) (dOp rPow (dC (.int 10)) (dC (.int 18)))) dNil))) (dCons (dOp rAdd (dOp rMod (dVar 0) (dC (.int 2147483629))) (dC (.int 1))) (dCons (dC (.int 0)) dNil)))))

abbrev N_law_draw : List Str := ["_law_pen_here", "_law_many", "_law_found", "_law_stirred"]
def rd_law_draw : DTS := (dSeq (dIfS (dTest (dOp rGt (dOp rIx (dVar 0) (dC (.int 0))) (dC (.int 0)))) (dSeq (dAsg (dOp rMod (dOp rIx (dVar 0) (dC (.int 0))) (dVar 1)) (dgName 2))
    (dSeq (dSetIx (dVar 0) (dC (.int 0)) (dOp rFdiv (dOp rIx (dVar 0) (dC (.int 0))) (dVar 1)))
    (dRet (dVar 2)))) dNext)
    (dSeq (dSetIx (dVar 0) (dC (.int 2)) (dOp rAdd (dOp rIx (dVar 0) (dC (.int 2))) (dC (.int 1))))
    (dSeq (dSetIx (dVar 0) (dC (.int 1)) (dOp rMod (dOp rAdd (dOp rAdd (dOp rMul (dOp rIx (dVar 0) (dC (.int 1))) (dC (.int 48271))) (dOp rMul (dC (.int 1009)) (dOp rIx (dVar 0) (dC (.int 2))))) (dC (.int 7))) (dC (.int 2147483647))))
    (dSeq (dAsg (dOp rMod (dOp rAdd (dOp rAdd (dOp rMul (dOp rIx (dVar 0) (dC (.int 1))) (dOp rIx (dVar 0) (dC (.int 1)))) (dOp rMul (dC (.int 69621)) (dOp rIx (dVar 0) (dC (.int 1))))) (dC (.int 11))) (dC (.int 2147483629))) (dgName 3))
    (dSeq (dAsg (dOp rMod (dOp rAdd (dOp rMul (dVar 3) (dVar 3)) (dOp rMul (dC (.int 40014)) (dVar 3))) (dC (.int 2147483587))) (dgName 3))
    (dRet (dOp rMod (dOp rFdiv (dVar 3) (dC (.int 16))) (dVar 1))))))))

theorem ct_law_cell : ∀ ws m Q E, sp_law_cell ws m Q E → rd_law_cell (dEnds Q) (startD N_law_cell.length ws) m := by
  rintro ws m Q E ⟨xs, k, rfl, hk, q⟩
  simp only [rd_law_cell, dEnds, dC, dV, dOp, dTest, dChain, dAnd, dOr, dNot, dAndV, dOrV, dNotV, dIf, dNil, dCons, dTup, dLst, dLstF, dFrz, dUn, dNoPart, dPart, dSl, dCall, dNext, dSeq, dNever, dRet, dRetN, dExp, dIfS, dAsg, dPar2, dPar3, dRev, dMappend, dMcount, dgName, dgTup, dgCons, dgNil, rMul, rMod, rFdiv, rPow, rLt, rGt, rLe, rGe, rAny, rAll, rMax2, rMin2, rSub, dFn, dDict0, dDict1, dRngTup, dRngLst, dRg1, dRg2, dComp, dFor, diSeq, diRange1, diRange2, diZip, startD, wipeD, dYes, sx_v0, sx_v1, sx_v2, sx_v3, sx_v4, sx_v5, sx_v6, sx_v7, sx_v8, sx_v9, sx_addI, sx_addT, sx_addL, sx_int, sx_int0, sx_neg, sx_eqI, sx_neI, sx_ordI, sx_ordT, sx_inL, sx_inT, sx_isN, sx_isi_int, sx_isi_bool, sx_isi_str, sx_isi_tuple, sx_isi_list, sx_isi_dict, sx_lenL, sx_lenT, atQ_some, sx_ixL, sx_ixT, at0, at1, at2, ixN30, ixN31, ixN32, sx_setIx, sx_set0, sx_set1, sx_set2, sx_slL, sx_slT, sx_tupL, sx_tupT, sx_listL, sx_listT, sx_sortL, sx_sortT, sx_int2, sx_toI, sx_toB, sx_repr, sx_repL, istup_t, istup_l, isint_i, isbool_i, datas_n, datas_c, Option.map_some, mset_same, mset_mset, List.map_cons, List.map_nil, List.length_cons, List.length_nil, List.getElem?_cons_zero, List.getElem?_cons_succ, List.set_cons_zero, List.set_cons_succ, List.replicate, List.cons_append, List.nil_append]
  by_cases h : k < (xs.length : Int)
  · obtain ⟨n, rfl⟩ := Int.eq_ofNat_of_zero_le hk
    have hn : n < xs.length := by omega
    have h1 : atI (xs.map PyData.int) (n : Int) = some (.int xs[n]) := by
      simp [atI, ixN, hn]
    rw [h1]
    simp only [List.length_map, h, decide_true, if_pos, atQ_some]
    exact ⟨m, .refl m, q _⟩
  · simp only [List.length_map, h, decide_false, Bool.false_eq_true, if_false]
    exact ⟨m, .refl m, q _⟩
theorem ct_law_pen : ∀ ws m Q E, sp_law_pen ws m Q E → rd_law_pen (dEnds Q) (startD N_law_pen.length ws) m := by
  rintro ws m Q E ⟨c, rfl, q⟩
  simp only [rd_law_pen, dEnds, dC, dV, dOp, dTest, dChain, dAnd, dOr, dNot, dAndV, dOrV, dNotV, dIf, dNil, dCons, dTup, dLst, dLstF, dFrz, dUn, dNoPart, dPart, dSl, dCall, dNext, dSeq, dNever, dRet, dRetN, dExp, dIfS, dAsg, dPar2, dPar3, dRev, dMappend, dMcount, dgName, dgTup, dgCons, dgNil, rMul, rMod, rFdiv, rPow, rLt, rGt, rLe, rGe, rAny, rAll, rMax2, rMin2, rSub, dFn, dDict0, dDict1, dRngTup, dRngLst, dRg1, dRg2, dComp, dFor, diSeq, diRange1, diRange2, diZip, startD, wipeD, dYes, sx_v0, sx_v1, sx_v2, sx_v3, sx_v4, sx_v5, sx_v6, sx_v7, sx_v8, sx_v9, sx_addI, sx_addT, sx_addL, sx_int, sx_int0, sx_neg, sx_eqI, sx_neI, sx_ordI, sx_ordT, sx_inL, sx_inT, sx_isN, sx_isi_int, sx_isi_bool, sx_isi_str, sx_isi_tuple, sx_isi_list, sx_isi_dict, sx_lenL, sx_lenT, atQ_some, sx_ixL, sx_ixT, at0, at1, at2, ixN30, ixN31, ixN32, sx_setIx, sx_set0, sx_set1, sx_set2, sx_slL, sx_slT, sx_tupL, sx_tupT, sx_listL, sx_listT, sx_sortL, sx_sortT, sx_int2, sx_toI, sx_toB, sx_repr, sx_repL, istup_t, istup_l, isint_i, isbool_i, datas_n, datas_c, Option.map_some, mset_same, mset_mset, List.map_cons, List.map_nil, List.length_cons, List.length_nil, List.getElem?_cons_zero, List.getElem?_cons_succ, List.set_cons_zero, List.set_cons_succ, List.replicate, List.cons_append, List.nil_append]
  refine ⟨⟨by decide, by decide, by decide⟩, by decide, by decide, fun a ha => ⟨_, .refl _, q a _ ha ⟨_, _, _, rfl, ?_, ?_⟩⟩⟩
  · have := Int.emod_nonneg c (show (2147483629 : Int) ≠ 0 by decide); omega
  · have := Int.emod_lt_of_pos c (show (0 : Int) < 2147483629 by decide); omega
theorem ct_law_draw : ∀ ws m Q E, sp_law_draw ws m Q E → rd_law_draw (dEnds Q) (startD N_law_draw.length ws) m := by
  rintro ws m Q E ⟨a, n, rfl, h0, h1, ⟨o, ho, x, y, z, rfl, hy0, hy1⟩, q⟩
  simp only [rd_law_draw, dEnds, dC, dV, dOp, dTest, dChain, dAnd, dOr, dNot, dAndV, dOrV, dNotV, dIf, dNil, dCons, dTup, dLst, dLstF, dFrz, dUn, dNoPart, dPart, dSl, dCall, dNext, dSeq, dNever, dRet, dRetN, dExp, dIfS, dAsg, dPar2, dPar3, dRev, dMappend, dMcount, dgName, dgTup, dgCons, dgNil, rMul, rMod, rFdiv, rPow, rLt, rGt, rLe, rGe, rAny, rAll, rMax2, rMin2, rSub, dFn, dDict0, dDict1, dRngTup, dRngLst, dRg1, dRg2, dComp, dFor, diSeq, diRange1, diRange2, diZip, startD, wipeD, dYes, sx_v0, sx_v1, sx_v2, sx_v3, sx_v4, sx_v5, sx_v6, sx_v7, sx_v8, sx_v9, sx_addI, sx_addT, sx_addL, sx_int, sx_int0, sx_neg, sx_eqI, sx_neI, sx_ordI, sx_ordT, sx_inL, sx_inT, sx_isN, sx_isi_int, sx_isi_bool, sx_isi_str, sx_isi_tuple, sx_isi_list, sx_isi_dict, sx_lenL, sx_lenT, atQ_some, sx_ixL, sx_ixT, at0, at1, at2, ixN30, ixN31, ixN32, sx_setIx, sx_set0, sx_set1, sx_set2, sx_slL, sx_slT, sx_tupL, sx_tupT, sx_listL, sx_listT, sx_sortL, sx_sortT, sx_int2, sx_toI, sx_toB, sx_repr, sx_repL, istup_t, istup_l, isint_i, isbool_i, datas_n, datas_c, Option.map_some, mset_same, mset_mset, List.map_cons, List.map_nil, List.length_cons, List.length_nil, List.getElem?_cons_zero, List.getElem?_cons_succ, List.set_cons_zero, List.set_cons_succ, List.replicate, List.cons_append, List.nil_append, sx_ixM ho]
  by_cases hx : 0 < x
  · simp only [hx, decide_true, if_true]
    simp only [dEnds, dC, dV, dOp, dTest, dChain, dAnd, dOr, dNot, dAndV, dOrV, dNotV, dIf, dNil, dCons, dTup, dLst, dLstF, dFrz, dUn, dNoPart, dPart, dSl, dCall, dNext, dSeq, dNever, dRet, dRetN, dExp, dIfS, dAsg, dPar2, dPar3, dRev, dMappend, dMcount, dgName, dgTup, dgCons, dgNil, rMul, rMod, rFdiv, rPow, rLt, rGt, rLe, rGe, rAny, rAll, rMax2, rMin2, rSub, dFn, dDict0, dDict1, dRngTup, dRngLst, dRg1, dRg2, dComp, dFor, diSeq, diRange1, diRange2, diZip, startD, wipeD, dYes, sx_v0, sx_v1, sx_v2, sx_v3, sx_v4, sx_v5, sx_v6, sx_v7, sx_v8, sx_v9, sx_addI, sx_addT, sx_addL, sx_int, sx_int0, sx_neg, sx_eqI, sx_neI, sx_ordI, sx_ordT, sx_inL, sx_inT, sx_isN, sx_isi_int, sx_isi_bool, sx_isi_str, sx_isi_tuple, sx_isi_list, sx_isi_dict, sx_lenL, sx_lenT, atQ_some, sx_ixL, sx_ixT, at0, at1, at2, ixN30, ixN31, ixN32, sx_setIx, sx_set0, sx_set1, sx_set2, sx_slL, sx_slT, sx_tupL, sx_tupT, sx_listL, sx_listT, sx_sortL, sx_sortT, sx_int2, sx_toI, sx_toB, sx_repr, sx_repL, istup_t, istup_l, isint_i, isbool_i, datas_n, datas_c, Option.map_some, mset_same, mset_mset, List.map_cons, List.map_nil, List.length_cons, List.length_nil, List.getElem?_cons_zero, List.getElem?_cons_succ, List.set_cons_zero, List.set_cons_succ, List.replicate, List.cons_append, List.nil_append, sx_ixM ho, sx_set ho]
    exact ⟨h0, ⟨h0, h1⟩, _, .refl _, q _ _ (Int.emod_nonneg x (by omega)) (Int.emod_lt_of_pos x h0) ⟨_, _, _, rfl, hy0, hy1⟩⟩
  · simp only [hx, decide_false, Bool.false_eq_true, if_false]
    simp only [dEnds, dC, dV, dOp, dTest, dChain, dAnd, dOr, dNot, dAndV, dOrV, dNotV, dIf, dNil, dCons, dTup, dLst, dLstF, dFrz, dUn, dNoPart, dPart, dSl, dCall, dNext, dSeq, dNever, dRet, dRetN, dExp, dIfS, dAsg, dPar2, dPar3, dRev, dMappend, dMcount, dgName, dgTup, dgCons, dgNil, rMul, rMod, rFdiv, rPow, rLt, rGt, rLe, rGe, rAny, rAll, rMax2, rMin2, rSub, dFn, dDict0, dDict1, dRngTup, dRngLst, dRg1, dRg2, dComp, dFor, diSeq, diRange1, diRange2, diZip, startD, wipeD, dYes, sx_v0, sx_v1, sx_v2, sx_v3, sx_v4, sx_v5, sx_v6, sx_v7, sx_v8, sx_v9, sx_addI, sx_addT, sx_addL, sx_int, sx_int0, sx_neg, sx_eqI, sx_neI, sx_ordI, sx_ordT, sx_inL, sx_inT, sx_isN, sx_isi_int, sx_isi_bool, sx_isi_str, sx_isi_tuple, sx_isi_list, sx_isi_dict, sx_lenL, sx_lenT, atQ_some, sx_ixL, sx_ixT, at0, at1, at2, ixN30, ixN31, ixN32, sx_setIx, sx_set0, sx_set1, sx_set2, sx_slL, sx_slT, sx_tupL, sx_tupT, sx_listL, sx_listT, sx_sortL, sx_sortT, sx_int2, sx_toI, sx_toB, sx_repr, sx_repL, istup_t, istup_l, isint_i, isbool_i, datas_n, datas_c, Option.map_some, mset_same, mset_mset, List.map_cons, List.map_nil, List.length_cons, List.length_nil, List.getElem?_cons_zero, List.getElem?_cons_succ, List.set_cons_zero, List.set_cons_succ, List.replicate, List.cons_append, List.nil_append, sx_ixM ho, sx_set ho]
    have hs : ∀ us : List W, mset m a (.lst us) a = some (.lst us) := fun us => mset_same
    simp only [dEnds, dC, dV, dOp, dTest, dChain, dAnd, dOr, dNot, dAndV, dOrV, dNotV, dIf, dNil, dCons, dTup, dLst, dLstF, dFrz, dUn, dNoPart, dPart, dSl, dCall, dNext, dSeq, dNever, dRet, dRetN, dExp, dIfS, dAsg, dPar2, dPar3, dRev, dMappend, dMcount, dgName, dgTup, dgCons, dgNil, rMul, rMod, rFdiv, rPow, rLt, rGt, rLe, rGe, rAny, rAll, rMax2, rMin2, rSub, dFn, dDict0, dDict1, dRngTup, dRngLst, dRg1, dRg2, dComp, dFor, diSeq, diRange1, diRange2, diZip, startD, wipeD, dYes, sx_v0, sx_v1, sx_v2, sx_v3, sx_v4, sx_v5, sx_v6, sx_v7, sx_v8, sx_v9, sx_addI, sx_addT, sx_addL, sx_int, sx_int0, sx_neg, sx_eqI, sx_neI, sx_ordI, sx_ordT, sx_inL, sx_inT, sx_isN, sx_isi_int, sx_isi_bool, sx_isi_str, sx_isi_tuple, sx_isi_list, sx_isi_dict, sx_lenL, sx_lenT, atQ_some, sx_ixL, sx_ixT, at0, at1, at2, ixN30, ixN31, ixN32, sx_setIx, sx_set0, sx_set1, sx_set2, sx_slL, sx_slT, sx_tupL, sx_tupT, sx_listL, sx_listT, sx_sortL, sx_sortT, sx_int2, sx_toI, sx_toB, sx_repr, sx_repL, istup_t, istup_l, isint_i, isbool_i, datas_n, datas_c, Option.map_some, mset_same, mset_mset, List.map_cons, List.map_nil, List.length_cons, List.length_nil, List.getElem?_cons_zero, List.getElem?_cons_succ, List.set_cons_zero, List.set_cons_succ, List.replicate, List.cons_append, List.nil_append, sx_ixM (hs _), sx_set (hs _)]
    have hu0 := Int.emod_nonneg (y * 48271 + 1009 * (z + 1) + 7) (show (2147483647 : Int) ≠ 0 by decide)
    have hu1 := Int.emod_lt_of_pos (y * 48271 + 1009 * (z + 1) + 7) (show (0 : Int) < 2147483647 by decide)
    generalize (y * 48271 + 1009 * (z + 1) + 7) % 2147483647 = u at hu0 hu1 ⊢
    have hv0 := Int.emod_nonneg (u * u + 69621 * u + 11) (show (2147483629 : Int) ≠ 0 by decide)
    have hv1 := Int.emod_lt_of_pos (u * u + 69621 * u + 11) (show (0 : Int) < 2147483629 by decide)
    generalize (u * u + 69621 * u + 11) % 2147483629 = v at hv0 hv1 ⊢
    refine ⟨.inr ⟨by decide, by decide⟩, .inl ⟨by decide, by decide⟩, by decide, .inl ⟨by omega, by omega⟩, .inl ⟨by decide, by decide⟩, by decide, .inl ⟨by omega, by omega⟩, .inl ⟨by decide, by decide⟩, by decide, ⟨by decide, by decide⟩, h0, _, .refl _, ?_⟩
    exact q _ _ (Int.emod_nonneg _ (by omega)) (Int.emod_lt_of_pos _ h0) ⟨_, _, _, rfl, hu0, by omega⟩
end DL
end
section
set_option maxHeartbeats 1000000
namespace DL
open PySem PySem.Spec L2
open PyProof.Rows hiding St

/-! ### what the debates' functions tell, of any data -/
def isNum (d : PyData) (lo hi : Int) : Bool := match d with | .int i => decide (lo ≤ i) && decide (i ≤ hi) | _ => false
def risesD : List PyData → Bool
  | x :: y :: r => PySem.W.dataLt x y && risesD (y :: r)
  | _ => true
def isSet (d : PyData) (last : Int) : Bool := match d with | .tuple xs => xs.all (fun x => isNum x 0 last) && risesD xs | _ => false
def areSpeakers (d : PyData) : Bool := isSet d 19 && (match d with | .tuple xs => decide ((xs.length : Int) ≤ 15) | _ => false)
def isSpeakerOf (xs : List PyData) (d : PyData) : Bool := isNum d 0 19 && xs.any fun z => PyData.eqv z d
def isAttackOf (xs : List PyData) (d : PyData) : Bool := match d with | .tuple [a, b] => isSpeakerOf xs a && isSpeakerOf xs b | _ => false
def areAttacksOf (xs : List PyData) (d : PyData) : Bool := match d with | .tuple ys => ys.all (isAttackOf xs) && risesD ys | _ => false
def isDebate (d : PyData) : Bool := match d with | .tuple [.tuple a, b] => areSpeakers (.tuple a) && areAttacksOf a b | _ => false
def sp_is_number : DSp := fun ws m Q _ => ∃ d lo hi, ws = [.d d, .d (.int lo), .d (.int hi)] ∧ Q (.d (.bool (isNum d lo hi))) m
def sp_rises : DSp := fun ws m Q _ => ∃ xs, ws = [.d (.tuple xs)] ∧ (∀ x ∈ xs, ∀ y ∈ xs, ordOk x y = true) ∧ Q (.d (.bool (risesD xs))) m
def sp_is_set : DSp := fun ws m Q _ => ∃ d last, ws = [.d d, .d (.int last)] ∧ Q (.d (.bool (isSet d last))) m
def sp_are_speakers : DSp := fun ws m Q _ => ∃ d, ws = [.d d] ∧ Q (.d (.bool (areSpeakers d))) m
def sp_is_speaker_of : DSp := fun ws m Q _ => ∃ xs d, ws = [.d (.tuple xs), .d d] ∧ PyData.plainAll xs = true ∧ Q (.d (.bool (isSpeakerOf xs d))) m
def sp_is_attack_of : DSp := fun ws m Q _ => ∃ xs d, ws = [.d (.tuple xs), .d d] ∧ PyData.plainAll xs = true ∧ Q (.d (.bool (isAttackOf xs d))) m
def sp_are_attacks_of : DSp := fun ws m Q _ => ∃ xs d, ws = [.d (.tuple xs), .d d] ∧ PyData.plainAll xs = true ∧ Q (.d (.bool (areAttacksOf xs d))) m
def sp_is_debate : DSp := fun ws m Q _ => ∃ d, ws = [.d d] ∧ Q (.d (.bool (isDebate d))) m
theorem tk_is_number : Takes 3 sp_is_number := by rintro ws m Q E ⟨d, lo, hi, rfl, _⟩; rfl
theorem tk_rises : Takes 1 sp_rises := by rintro ws m Q E ⟨d, rfl, _⟩; rfl
theorem tk_is_set : Takes 2 sp_is_set := by rintro ws m Q E ⟨d, lo, rfl, _⟩; rfl
theorem tk_are_speakers : Takes 1 sp_are_speakers := by rintro ws m Q E ⟨d, rfl, _⟩; rfl
theorem tk_is_speaker_of : Takes 2 sp_is_speaker_of := by rintro ws m Q E ⟨d, lo, rfl, _⟩; rfl
theorem tk_is_attack_of : Takes 2 sp_is_attack_of := by rintro ws m Q E ⟨d, lo, rfl, _⟩; rfl
theorem tk_are_attacks_of : Takes 2 sp_are_attacks_of := by rintro ws m Q E ⟨d, lo, rfl, _⟩; rfl
theorem tk_is_debate : Takes 1 sp_is_debate := by rintro ws m Q E ⟨d, rfl, _⟩; rfl
abbrev N_is_number : List Str := ["value", "low", "high"]
def rd_is_number : DTS := (dRet (dAndV (dCall rIsi (dCons (dVar 0) (dCons (dV (.ty "int")) dNil))) (dAndV (dNotV (dCall rIsi (dCons (dVar 0) (dCons (dV (.ty "bool")) dNil)))) (dChain rLe rLe (dVar 1) (dVar 0) (dVar 2)))))

abbrev N_rises : List Str := ["row", "one", "later"]
def rd_rises : DTS := (dRet (dCall rAll (dCons (dComp (diZip (dCons (dVar 0) (dCons (dSl (dVar 0) (dPart (dC (.int 1))) dNoPart) dNil))) (dgTup 2 (dgCons (dgName 1) (dgCons (dgName 2) dgNil))) dYes (dOp rLt (dVar 1) (dVar 2)) [1, 2]) dNil)))

abbrev N_is_set : List Str := ["value", "last", "one"]
def rd_is_set : DTS := (dRet (dAndV (dCall rIsi (dCons (dVar 0) (dCons (dV (.ty "tuple")) dNil))) (dAndV (dCall rAll (dCons (dComp (diSeq (dVar 0)) (dgName 2) dYes (dFn sp_is_number (dCons (dVar 2) (dCons (dC (.int 0)) (dCons (dVar 1) dNil)))) [2]) dNil)) (dFn sp_rises (dCons (dVar 0) dNil)))))

abbrev N_are_speakers : List Str := ["value"]
def rd_are_speakers : DTS := (dRet (dAndV (dFn sp_is_set (dCons (dVar 0) (dCons (dC (.int 19)) dNil))) (dOp rLe (dCall rLen (dCons (dVar 0) dNil)) (dC (.int 15)))))

abbrev N_is_speaker_of : List Str := ["speakers", "value"]
def rd_is_speaker_of : DTS := (dRet (dAndV (dFn sp_is_number (dCons (dVar 1) (dCons (dC (.int 0)) (dCons (dC (.int 19)) dNil)))) (dOp (rIn id) (dVar 1) (dVar 0))))

abbrev N_is_attack_of : List Str := ["speakers", "value"]
def rd_is_attack_of : DTS := (dSeq (dIfS (dOr (dNot (dTest (dCall rIsi (dCons (dVar 1) (dCons (dV (.ty "tuple")) dNil))))) (dTest (dOp rNe (dCall rLen (dCons (dVar 1) dNil)) (dC (.int 2))))) (dRet (dC (.bool false))) dNext)
    (dRet (dAndV (dFn sp_is_speaker_of (dCons (dVar 0) (dCons (dOp rIx (dVar 1) (dC (.int 0))) dNil))) (dFn sp_is_speaker_of (dCons (dVar 0) (dCons (dOp rIx (dVar 1) (dC (.int 1))) dNil))))))

abbrev N_are_attacks_of : List Str := ["speakers", "value", "one"]
def rd_are_attacks_of : DTS := (dRet (dAndV (dCall rIsi (dCons (dVar 1) (dCons (dV (.ty "tuple")) dNil))) (dAndV (dCall rAll (dCons (dComp (diSeq (dVar 1)) (dgName 2) dYes (dFn sp_is_attack_of (dCons (dVar 0) (dCons (dVar 2) dNil))) [2]) dNil)) (dFn sp_rises (dCons (dVar 1) dNil)))))

abbrev N_is_debate : List Str := ["value"]
def rd_is_debate : DTS := (dSeq (dIfS (dOr (dNot (dTest (dCall rIsi (dCons (dVar 0) (dCons (dV (.ty "tuple")) dNil))))) (dTest (dOp rNe (dCall rLen (dCons (dVar 0) dNil)) (dC (.int 2))))) (dRet (dC (.bool false))) dNext)
    (dRet (dAndV (dFn sp_are_speakers (dCons (dOp rIx (dVar 0) (dC (.int 0))) dNil)) (dFn sp_are_attacks_of (dCons (dOp rIx (dVar 0) (dC (.int 0))) (dCons (dOp rIx (dVar 0) (dC (.int 1))) dNil))))))

theorem ct_is_number : ∀ ws m Q E, sp_is_number ws m Q E → rd_is_number (dEnds Q) (startD N_is_number.length ws) m := by
  rintro ws m Q E ⟨d, lo, hi, rfl, q⟩
  simp only [rd_is_number, dEnds, dC, dV, dOp, dTest, dChain, dAnd, dOr, dNot, dAndV, dOrV, dNotV, dIf, dNil, dCons, dTup, dLst, dLstF, dFrz, dUn, dNoPart, dPart, dSl, dCall, dNext, dSeq, dNever, dRet, dRetN, dExp, dIfS, dAsg, dPar2, dPar3, dRev, dMappend, dMcount, dgName, dgTup, dgCons, dgNil, rMul, rMod, rFdiv, rPow, rLt, rGt, rLe, rGe, rAny, rAll, rMax2, rMin2, rSub, dFn, dDict0, dDict1, dRngTup, dRngLst, dRg1, dRg2, dComp, dFor, diSeq, diRange1, diRange2, diZip, startD, wipeD, dYes, sx_v0, sx_v1, sx_v2, sx_v3, sx_v4, sx_v5, sx_v6, sx_v7, sx_v8, sx_v9, sx_addI, sx_addT, sx_addL, sx_int, sx_int0, sx_neg, sx_eqI, sx_neI, sx_ordI, sx_ordT, sx_inL, sx_inT, sx_isN, sx_isi_int, sx_isi_bool, sx_isi_str, sx_isi_tuple, sx_isi_list, sx_isi_dict, sx_lenL, sx_lenT, atQ_some, sx_ixL, sx_ixT, at0, at1, at2, ixN30, ixN31, ixN32, sx_setIx, sx_set0, sx_set1, sx_set2, sx_slL, sx_slT, sx_tupL, sx_tupT, sx_listL, sx_listT, sx_sortL, sx_sortT, sx_int2, sx_toI, sx_toB, sx_repr, sx_repL, istup_t, istup_l, isint_i, isbool_i, datas_n, datas_c, Option.map_some, mset_same, mset_mset, List.map_cons, List.map_nil, List.length_cons, List.length_nil, List.getElem?_cons_zero, List.getElem?_cons_succ, List.set_cons_zero, List.set_cons_succ, List.replicate, List.cons_append, List.nil_append]
  cases d with
  | int i =>
    simp only [PyData.isInt, PyData.isBool, dEnds, dC, dV, dOp, dTest, dChain, dAnd, dOr, dNot, dAndV, dOrV, dNotV, dIf, dNil, dCons, dTup, dLst, dLstF, dFrz, dUn, dNoPart, dPart, dSl, dCall, dNext, dSeq, dNever, dRet, dRetN, dExp, dIfS, dAsg, dPar2, dPar3, dRev, dMappend, dMcount, dgName, dgTup, dgCons, dgNil, rMul, rMod, rFdiv, rPow, rLt, rGt, rLe, rGe, rAny, rAll, rMax2, rMin2, rSub, dFn, dDict0, dDict1, dRngTup, dRngLst, dRg1, dRg2, dComp, dFor, diSeq, diRange1, diRange2, diZip, startD, wipeD, dYes, sx_v0, sx_v1, sx_v2, sx_v3, sx_v4, sx_v5, sx_v6, sx_v7, sx_v8, sx_v9, sx_addI, sx_addT, sx_addL, sx_int, sx_int0, sx_neg, sx_eqI, sx_neI, sx_ordI, sx_ordT, sx_inL, sx_inT, sx_isN, sx_isi_int, sx_isi_bool, sx_isi_str, sx_isi_tuple, sx_isi_list, sx_isi_dict, sx_lenL, sx_lenT, atQ_some, sx_ixL, sx_ixT, at0, at1, at2, ixN30, ixN31, ixN32, sx_setIx, sx_set0, sx_set1, sx_set2, sx_slL, sx_slT, sx_tupL, sx_tupT, sx_listL, sx_listT, sx_sortL, sx_sortT, sx_int2, sx_toI, sx_toB, sx_repr, sx_repL, istup_t, istup_l, isint_i, isbool_i, datas_n, datas_c, Option.map_some, mset_same, mset_mset, List.map_cons, List.map_nil, List.length_cons, List.length_nil, List.getElem?_cons_zero, List.getElem?_cons_succ, List.set_cons_zero, List.set_cons_succ, List.replicate, List.cons_append, List.nil_append, if_true, Bool.not_false]
    by_cases h : lo ≤ i
    · simp only [h, decide_true]
      exact ⟨m, .refl m, by simpa [isNum, h] using q⟩
    · simp only [h, decide_false]
      exact ⟨m, .refl m, by simpa [isNum, h] using q⟩
  | bool b => exact ⟨m, .refl m, q⟩
  | none => exact ⟨m, .refl m, q⟩
  | str _ => exact ⟨m, .refl m, q⟩
  | list _ => exact ⟨m, .refl m, q⟩
  | tuple _ => exact ⟨m, .refl m, q⟩
  | dict _ => exact ⟨m, .refl m, q⟩
theorem cut_tail {α : Type} (xs : List α) : cut xs (some 1) none = xs.drop 1 := by
  unfold cut HT.sIx
  simp
  cases xs with
  | nil => simp
  | cons x xs => simp
theorem ct_rises : ∀ ws m Q E, sp_rises ws m Q E → rd_rises (dEnds Q) (startD N_rises.length ws) m := by
  rintro ws m Q E ⟨xs, rfl, hk, q⟩
  simp only [rd_rises, dEnds, dC, dV, dOp, dTest, dChain, dAnd, dOr, dNot, dAndV, dOrV, dNotV, dIf, dNil, dCons, dTup, dLst, dLstF, dFrz, dUn, dNoPart, dPart, dSl, dCall, dNext, dSeq, dNever, dRet, dRetN, dExp, dIfS, dAsg, dPar2, dPar3, dRev, dMappend, dMcount, dgName, dgTup, dgCons, dgNil, rMul, rMod, rFdiv, rPow, rLt, rGt, rLe, rGe, rAny, rAll, rMax2, rMin2, rSub, dFn, dDict0, dDict1, dRngTup, dRngLst, dRg1, dRg2, dComp, dFor, diSeq, diRange1, diRange2, diZip, startD, wipeD, dYes, sx_v0, sx_v1, sx_v2, sx_v3, sx_v4, sx_v5, sx_v6, sx_v7, sx_v8, sx_v9, sx_addI, sx_addT, sx_addL, sx_int, sx_int0, sx_neg, sx_eqI, sx_neI, sx_ordI, sx_ordT, sx_inL, sx_inT, sx_isN, sx_isi_int, sx_isi_bool, sx_isi_str, sx_isi_tuple, sx_isi_list, sx_isi_dict, sx_lenL, sx_lenT, atQ_some, sx_ixL, sx_ixT, at0, at1, at2, ixN30, ixN31, ixN32, sx_setIx, sx_set0, sx_set1, sx_set2, sx_slL, sx_slT, sx_tupL, sx_tupT, sx_listL, sx_listT, sx_sortL, sx_sortT, sx_int2, sx_toI, sx_toB, sx_repr, sx_repL, istup_t, istup_l, isint_i, isbool_i, datas_n, datas_c, Option.map_some, mset_same, mset_mset, List.map_cons, List.map_nil, List.length_cons, List.length_nil, List.getElem?_cons_zero, List.getElem?_cons_succ, List.set_cons_zero, List.set_cons_succ, List.replicate, List.cons_append, List.nil_append, cut_tail]
  refine compW_mz (fun x y => .bool (PySem.W.dataLt x y)) (fun x y hx hy k1 k0 h1 => ?_) ?_
  · simp only [Turn1, dEnds, dC, dV, dOp, dTest, dChain, dAnd, dOr, dNot, dAndV, dOrV, dNotV, dIf, dNil, dCons, dTup, dLst, dLstF, dFrz, dUn, dNoPart, dPart, dSl, dCall, dNext, dSeq, dNever, dRet, dRetN, dExp, dIfS, dAsg, dPar2, dPar3, dRev, dMappend, dMcount, dgName, dgTup, dgCons, dgNil, rMul, rMod, rFdiv, rPow, rLt, rGt, rLe, rGe, rAny, rAll, rMax2, rMin2, rSub, dFn, dDict0, dDict1, dRngTup, dRngLst, dRg1, dRg2, dComp, dFor, diSeq, diRange1, diRange2, diZip, startD, wipeD, dYes, sx_v0, sx_v1, sx_v2, sx_v3, sx_v4, sx_v5, sx_v6, sx_v7, sx_v8, sx_v9, sx_addI, sx_addT, sx_addL, sx_int, sx_int0, sx_neg, sx_eqI, sx_neI, sx_ordI, sx_ordT, sx_inL, sx_inT, sx_isN, sx_isi_int, sx_isi_bool, sx_isi_str, sx_isi_tuple, sx_isi_list, sx_isi_dict, sx_lenL, sx_lenT, atQ_some, sx_ixL, sx_ixT, at0, at1, at2, ixN30, ixN31, ixN32, sx_setIx, sx_set0, sx_set1, sx_set2, sx_slL, sx_slT, sx_tupL, sx_tupT, sx_listL, sx_listT, sx_sortL, sx_sortT, sx_int2, sx_toI, sx_toB, sx_repr, sx_repL, istup_t, istup_l, isint_i, isbool_i, datas_n, datas_c, Option.map_some, mset_same, mset_mset, List.map_cons, List.map_nil, List.length_cons, List.length_nil, List.getElem?_cons_zero, List.getElem?_cons_succ, List.set_cons_zero, List.set_cons_succ, List.replicate, List.cons_append, List.nil_append, if_true]
    exact ⟨trivial, sx_lt (hk x hx y (List.mem_of_mem_drop hy)) h1⟩
  · have hb : ∀ xs : List PyData, (List.zipWith PySem.W.dataLt xs (xs.drop 1)).all id = risesD xs := by
      intro xs
      induction xs with
      | nil => rfl
      | cons x xs ih =>
        cases xs with
        | nil => rfl
        | cons y r =>
          rw [risesD, ← ih]
          rfl
    rw [sx_bools (boolsOf_z PySem.W.dataLt xs (xs.drop 1)), hb]
    exact ⟨m, .refl m, q⟩
theorem isTuple_cases (d : PyData) : (∃ xs, d = .tuple xs) ∨ d.isTuple = false := by
  cases d <;> first | exact .inl ⟨_, rfl⟩ | exact .inr rfl
theorem isNum_int {d : PyData} {lo hi : Int} (h : isNum d lo hi = true) : ∃ i : Int, d = .int i ∧ lo ≤ i ∧ i ≤ hi := by
  cases d <;> simp [isNum] at h
  exact ⟨_, rfl, h.1, h.2⟩
theorem ct_is_set : ∀ ws m Q E, sp_is_set ws m Q E → rd_is_set (dEnds Q) (startD N_is_set.length ws) m := by
  rintro ws m Q E ⟨d, last, rfl, q⟩
  simp only [rd_is_set, dEnds, dC, dV, dOp, dTest, dChain, dAnd, dOr, dNot, dAndV, dOrV, dNotV, dIf, dNil, dCons, dTup, dLst, dLstF, dFrz, dUn, dNoPart, dPart, dSl, dCall, dNext, dSeq, dNever, dRet, dRetN, dExp, dIfS, dAsg, dPar2, dPar3, dRev, dMappend, dMcount, dgName, dgTup, dgCons, dgNil, rMul, rMod, rFdiv, rPow, rLt, rGt, rLe, rGe, rAny, rAll, rMax2, rMin2, rSub, dFn, dDict0, dDict1, dRngTup, dRngLst, dRg1, dRg2, dComp, dFor, diSeq, diRange1, diRange2, diZip, startD, wipeD, dYes, sx_v0, sx_v1, sx_v2, sx_v3, sx_v4, sx_v5, sx_v6, sx_v7, sx_v8, sx_v9, sx_addI, sx_addT, sx_addL, sx_int, sx_int0, sx_neg, sx_eqI, sx_neI, sx_ordI, sx_ordT, sx_inL, sx_inT, sx_isN, sx_isi_int, sx_isi_bool, sx_isi_str, sx_isi_tuple, sx_isi_list, sx_isi_dict, sx_lenL, sx_lenT, atQ_some, sx_ixL, sx_ixT, at0, at1, at2, ixN30, ixN31, ixN32, sx_setIx, sx_set0, sx_set1, sx_set2, sx_slL, sx_slT, sx_tupL, sx_tupT, sx_listL, sx_listT, sx_sortL, sx_sortT, sx_int2, sx_toI, sx_toB, sx_repr, sx_repL, istup_t, istup_l, isint_i, isbool_i, datas_n, datas_c, Option.map_some, mset_same, mset_mset, List.map_cons, List.map_nil, List.length_cons, List.length_nil, List.getElem?_cons_zero, List.getElem?_cons_succ, List.set_cons_zero, List.set_cons_succ, List.replicate, List.cons_append, List.nil_append]
  rcases isTuple_cases d with ⟨xs, rfl⟩ | h
  · simp only [if_true, dEnds, dC, dV, dOp, dTest, dChain, dAnd, dOr, dNot, dAndV, dOrV, dNotV, dIf, dNil, dCons, dTup, dLst, dLstF, dFrz, dUn, dNoPart, dPart, dSl, dCall, dNext, dSeq, dNever, dRet, dRetN, dExp, dIfS, dAsg, dPar2, dPar3, dRev, dMappend, dMcount, dgName, dgTup, dgCons, dgNil, rMul, rMod, rFdiv, rPow, rLt, rGt, rLe, rGe, rAny, rAll, rMax2, rMin2, rSub, dFn, dDict0, dDict1, dRngTup, dRngLst, dRg1, dRg2, dComp, dFor, diSeq, diRange1, diRange2, diZip, startD, wipeD, dYes, sx_v0, sx_v1, sx_v2, sx_v3, sx_v4, sx_v5, sx_v6, sx_v7, sx_v8, sx_v9, sx_addI, sx_addT, sx_addL, sx_int, sx_int0, sx_neg, sx_eqI, sx_neI, sx_ordI, sx_ordT, sx_inL, sx_inT, sx_isN, sx_isi_int, sx_isi_bool, sx_isi_str, sx_isi_tuple, sx_isi_list, sx_isi_dict, sx_lenL, sx_lenT, atQ_some, sx_ixL, sx_ixT, at0, at1, at2, ixN30, ixN31, ixN32, sx_setIx, sx_set0, sx_set1, sx_set2, sx_slL, sx_slT, sx_tupL, sx_tupT, sx_listL, sx_listT, sx_sortL, sx_sortT, sx_int2, sx_toI, sx_toB, sx_repr, sx_repL, istup_t, istup_l, isint_i, isbool_i, datas_n, datas_c, Option.map_some, mset_same, mset_mset, List.map_cons, List.map_nil, List.length_cons, List.length_nil, List.getElem?_cons_zero, List.getElem?_cons_succ, List.set_cons_zero, List.set_cons_succ, List.replicate, List.cons_append, List.nil_append]
    refine compW_md (fun x => .bool (isNum x 0 last)) (fun x hx k1 k0 h1 => ?_) ?_
    · simp only [Turn1, dEnds, dC, dV, dOp, dTest, dChain, dAnd, dOr, dNot, dAndV, dOrV, dNotV, dIf, dNil, dCons, dTup, dLst, dLstF, dFrz, dUn, dNoPart, dPart, dSl, dCall, dNext, dSeq, dNever, dRet, dRetN, dExp, dIfS, dAsg, dPar2, dPar3, dRev, dMappend, dMcount, dgName, dgTup, dgCons, dgNil, rMul, rMod, rFdiv, rPow, rLt, rGt, rLe, rGe, rAny, rAll, rMax2, rMin2, rSub, dFn, dDict0, dDict1, dRngTup, dRngLst, dRg1, dRg2, dComp, dFor, diSeq, diRange1, diRange2, diZip, startD, wipeD, dYes, sx_v0, sx_v1, sx_v2, sx_v3, sx_v4, sx_v5, sx_v6, sx_v7, sx_v8, sx_v9, sx_addI, sx_addT, sx_addL, sx_int, sx_int0, sx_neg, sx_eqI, sx_neI, sx_ordI, sx_ordT, sx_inL, sx_inT, sx_isN, sx_isi_int, sx_isi_bool, sx_isi_str, sx_isi_tuple, sx_isi_list, sx_isi_dict, sx_lenL, sx_lenT, atQ_some, sx_ixL, sx_ixT, at0, at1, at2, ixN30, ixN31, ixN32, sx_setIx, sx_set0, sx_set1, sx_set2, sx_slL, sx_slT, sx_tupL, sx_tupT, sx_listL, sx_listT, sx_sortL, sx_sortT, sx_int2, sx_toI, sx_toB, sx_repr, sx_repL, istup_t, istup_l, isint_i, isbool_i, datas_n, datas_c, Option.map_some, mset_same, mset_mset, List.map_cons, List.map_nil, List.length_cons, List.length_nil, List.getElem?_cons_zero, List.getElem?_cons_succ, List.set_cons_zero, List.set_cons_succ, List.replicate, List.cons_append, List.nil_append, if_true]
      exact ⟨_, _, _, rfl, h1⟩
    · rw [sx_bools (boolsOf_f (fun x => isNum x 0 last) xs)]
      dsimp only
      by_cases ha : xs.all (fun x => isNum x 0 last) = true
      · have : ((xs.map fun x => isNum x 0 last).all id) = true := by rw [List.all_map]; exact ha
        simp only [this, if_true]
        refine ⟨xs, rfl, fun x hx y hy => ?_, m, .refl m, ?_⟩
        · obtain ⟨i, rfl, _⟩ := isNum_int (List.all_eq_true.mp ha x hx)
          obtain ⟨j, rfl, _⟩ := isNum_int (List.all_eq_true.mp ha y hy)
          exact ordOk_I i j
        · simpa [isSet, ha] using q
      · have : ((xs.map fun x => isNum x 0 last).all id) = false := by rw [List.all_map]; simpa using ha
        simp only [this, Bool.false_eq_true, if_false]
        refine ⟨m, .refl m, ?_⟩
        have ha' : xs.all (fun x => isNum x 0 last) = false := by simpa using ha
        simpa [isSet, ha'] using q
  · simp only [h, Bool.false_eq_true, if_false]
    refine ⟨m, .refl m, ?_⟩
    cases d <;> first | exact q | cases h
theorem ct_are_speakers : ∀ ws m Q E, sp_are_speakers ws m Q E → rd_are_speakers (dEnds Q) (startD N_are_speakers.length ws) m := by
  rintro ws m Q E ⟨d, rfl, q⟩
  simp only [rd_are_speakers, dEnds, dC, dV, dOp, dTest, dChain, dAnd, dOr, dNot, dAndV, dOrV, dNotV, dIf, dNil, dCons, dTup, dLst, dLstF, dFrz, dUn, dNoPart, dPart, dSl, dCall, dNext, dSeq, dNever, dRet, dRetN, dExp, dIfS, dAsg, dPar2, dPar3, dRev, dMappend, dMcount, dgName, dgTup, dgCons, dgNil, rMul, rMod, rFdiv, rPow, rLt, rGt, rLe, rGe, rAny, rAll, rMax2, rMin2, rSub, dFn, dDict0, dDict1, dRngTup, dRngLst, dRg1, dRg2, dComp, dFor, diSeq, diRange1, diRange2, diZip, startD, wipeD, dYes, sx_v0, sx_v1, sx_v2, sx_v3, sx_v4, sx_v5, sx_v6, sx_v7, sx_v8, sx_v9, sx_addI, sx_addT, sx_addL, sx_int, sx_int0, sx_neg, sx_eqI, sx_neI, sx_ordI, sx_ordT, sx_inL, sx_inT, sx_isN, sx_isi_int, sx_isi_bool, sx_isi_str, sx_isi_tuple, sx_isi_list, sx_isi_dict, sx_lenL, sx_lenT, atQ_some, sx_ixL, sx_ixT, at0, at1, at2, ixN30, ixN31, ixN32, sx_setIx, sx_set0, sx_set1, sx_set2, sx_slL, sx_slT, sx_tupL, sx_tupT, sx_listL, sx_listT, sx_sortL, sx_sortT, sx_int2, sx_toI, sx_toB, sx_repr, sx_repL, istup_t, istup_l, isint_i, isbool_i, datas_n, datas_c, Option.map_some, mset_same, mset_mset, List.map_cons, List.map_nil, List.length_cons, List.length_nil, List.getElem?_cons_zero, List.getElem?_cons_succ, List.set_cons_zero, List.set_cons_succ, List.replicate, List.cons_append, List.nil_append]
  refine ⟨d, 19, rfl, ?_⟩
  dsimp only
  by_cases h : isSet d 19 = true
  · simp only [h, if_true]
    cases d <;> simp [isSet] at h
    rename_i xs
    have h2 : isSet (.tuple xs) 19 = true := by simpa [isSet] using h
    simp only [dEnds, dC, dV, dOp, dTest, dChain, dAnd, dOr, dNot, dAndV, dOrV, dNotV, dIf, dNil, dCons, dTup, dLst, dLstF, dFrz, dUn, dNoPart, dPart, dSl, dCall, dNext, dSeq, dNever, dRet, dRetN, dExp, dIfS, dAsg, dPar2, dPar3, dRev, dMappend, dMcount, dgName, dgTup, dgCons, dgNil, rMul, rMod, rFdiv, rPow, rLt, rGt, rLe, rGe, rAny, rAll, rMax2, rMin2, rSub, dFn, dDict0, dDict1, dRngTup, dRngLst, dRg1, dRg2, dComp, dFor, diSeq, diRange1, diRange2, diZip, startD, wipeD, dYes, sx_v0, sx_v1, sx_v2, sx_v3, sx_v4, sx_v5, sx_v6, sx_v7, sx_v8, sx_v9, sx_addI, sx_addT, sx_addL, sx_int, sx_int0, sx_neg, sx_eqI, sx_neI, sx_ordI, sx_ordT, sx_inL, sx_inT, sx_isN, sx_isi_int, sx_isi_bool, sx_isi_str, sx_isi_tuple, sx_isi_list, sx_isi_dict, sx_lenL, sx_lenT, atQ_some, sx_ixL, sx_ixT, at0, at1, at2, ixN30, ixN31, ixN32, sx_setIx, sx_set0, sx_set1, sx_set2, sx_slL, sx_slT, sx_tupL, sx_tupT, sx_listL, sx_listT, sx_sortL, sx_sortT, sx_int2, sx_toI, sx_toB, sx_repr, sx_repL, istup_t, istup_l, isint_i, isbool_i, datas_n, datas_c, Option.map_some, mset_same, mset_mset, List.map_cons, List.map_nil, List.length_cons, List.length_nil, List.getElem?_cons_zero, List.getElem?_cons_succ, List.set_cons_zero, List.set_cons_succ, List.replicate, List.cons_append, List.nil_append]
    refine ⟨m, .refl m, ?_⟩
    unfold areSpeakers at q
    rw [h2] at q
    simpa using q
  · simp only [h, if_false, Bool.false_eq_true]
    refine ⟨m, .refl m, ?_⟩
    unfold areSpeakers at q
    simpa [h] using q
theorem ct_is_speaker_of : ∀ ws m Q E, sp_is_speaker_of ws m Q E → rd_is_speaker_of (dEnds Q) (startD N_is_speaker_of.length ws) m := by
  rintro ws m Q E ⟨xs, d, rfl, hp, q⟩
  simp only [rd_is_speaker_of, dEnds, dC, dV, dOp, dTest, dChain, dAnd, dOr, dNot, dAndV, dOrV, dNotV, dIf, dNil, dCons, dTup, dLst, dLstF, dFrz, dUn, dNoPart, dPart, dSl, dCall, dNext, dSeq, dNever, dRet, dRetN, dExp, dIfS, dAsg, dPar2, dPar3, dRev, dMappend, dMcount, dgName, dgTup, dgCons, dgNil, rMul, rMod, rFdiv, rPow, rLt, rGt, rLe, rGe, rAny, rAll, rMax2, rMin2, rSub, dFn, dDict0, dDict1, dRngTup, dRngLst, dRg1, dRg2, dComp, dFor, diSeq, diRange1, diRange2, diZip, startD, wipeD, dYes, sx_v0, sx_v1, sx_v2, sx_v3, sx_v4, sx_v5, sx_v6, sx_v7, sx_v8, sx_v9, sx_addI, sx_addT, sx_addL, sx_int, sx_int0, sx_neg, sx_eqI, sx_neI, sx_ordI, sx_ordT, sx_inL, sx_inT, sx_isN, sx_isi_int, sx_isi_bool, sx_isi_str, sx_isi_tuple, sx_isi_list, sx_isi_dict, sx_lenL, sx_lenT, atQ_some, sx_ixL, sx_ixT, at0, at1, at2, ixN30, ixN31, ixN32, sx_setIx, sx_set0, sx_set1, sx_set2, sx_slL, sx_slT, sx_tupL, sx_tupT, sx_listL, sx_listT, sx_sortL, sx_sortT, sx_int2, sx_toI, sx_toB, sx_repr, sx_repL, istup_t, istup_l, isint_i, isbool_i, datas_n, datas_c, Option.map_some, mset_same, mset_mset, List.map_cons, List.map_nil, List.length_cons, List.length_nil, List.getElem?_cons_zero, List.getElem?_cons_succ, List.set_cons_zero, List.set_cons_succ, List.replicate, List.cons_append, List.nil_append]
  refine ⟨d, 0, 19, rfl, ?_⟩
  dsimp only
  by_cases h : isNum d 0 19 = true
  · simp only [h, if_true]
    obtain ⟨i, rfl, _⟩ := isNum_int h
    refine ⟨by simp [inOk, hp, PyData.plain, PyData.depth], m, .refl m, ?_⟩
    unfold isSpeakerOf at q
    rw [h] at q
    exact q
  · simp only [h, if_false, Bool.false_eq_true]
    refine ⟨m, .refl m, ?_⟩
    unfold isSpeakerOf at q
    simpa [h] using q
theorem ct_is_attack_of : ∀ ws m Q E, sp_is_attack_of ws m Q E → rd_is_attack_of (dEnds Q) (startD N_is_attack_of.length ws) m := by
  rintro ws m Q E ⟨xs, d, rfl, hp, q⟩
  simp only [rd_is_attack_of, dEnds, dC, dV, dOp, dTest, dChain, dAnd, dOr, dNot, dAndV, dOrV, dNotV, dIf, dNil, dCons, dTup, dLst, dLstF, dFrz, dUn, dNoPart, dPart, dSl, dCall, dNext, dSeq, dNever, dRet, dRetN, dExp, dIfS, dAsg, dPar2, dPar3, dRev, dMappend, dMcount, dgName, dgTup, dgCons, dgNil, rMul, rMod, rFdiv, rPow, rLt, rGt, rLe, rGe, rAny, rAll, rMax2, rMin2, rSub, dFn, dDict0, dDict1, dRngTup, dRngLst, dRg1, dRg2, dComp, dFor, diSeq, diRange1, diRange2, diZip, startD, wipeD, dYes, sx_v0, sx_v1, sx_v2, sx_v3, sx_v4, sx_v5, sx_v6, sx_v7, sx_v8, sx_v9, sx_addI, sx_addT, sx_addL, sx_int, sx_int0, sx_neg, sx_eqI, sx_neI, sx_ordI, sx_ordT, sx_inL, sx_inT, sx_isN, sx_isi_int, sx_isi_bool, sx_isi_str, sx_isi_tuple, sx_isi_list, sx_isi_dict, sx_lenL, sx_lenT, atQ_some, sx_ixL, sx_ixT, at0, at1, at2, ixN30, ixN31, ixN32, sx_setIx, sx_set0, sx_set1, sx_set2, sx_slL, sx_slT, sx_tupL, sx_tupT, sx_listL, sx_listT, sx_sortL, sx_sortT, sx_int2, sx_toI, sx_toB, sx_repr, sx_repL, istup_t, istup_l, isint_i, isbool_i, datas_n, datas_c, Option.map_some, mset_same, mset_mset, List.map_cons, List.map_nil, List.length_cons, List.length_nil, List.getElem?_cons_zero, List.getElem?_cons_succ, List.set_cons_zero, List.set_cons_succ, List.replicate, List.cons_append, List.nil_append]
  rcases isTuple_cases d with ⟨ys, rfl⟩ | h
  · simp only [if_true, dEnds, dC, dV, dOp, dTest, dChain, dAnd, dOr, dNot, dAndV, dOrV, dNotV, dIf, dNil, dCons, dTup, dLst, dLstF, dFrz, dUn, dNoPart, dPart, dSl, dCall, dNext, dSeq, dNever, dRet, dRetN, dExp, dIfS, dAsg, dPar2, dPar3, dRev, dMappend, dMcount, dgName, dgTup, dgCons, dgNil, rMul, rMod, rFdiv, rPow, rLt, rGt, rLe, rGe, rAny, rAll, rMax2, rMin2, rSub, dFn, dDict0, dDict1, dRngTup, dRngLst, dRg1, dRg2, dComp, dFor, diSeq, diRange1, diRange2, diZip, startD, wipeD, dYes, sx_v0, sx_v1, sx_v2, sx_v3, sx_v4, sx_v5, sx_v6, sx_v7, sx_v8, sx_v9, sx_addI, sx_addT, sx_addL, sx_int, sx_int0, sx_neg, sx_eqI, sx_neI, sx_ordI, sx_ordT, sx_inL, sx_inT, sx_isN, sx_isi_int, sx_isi_bool, sx_isi_str, sx_isi_tuple, sx_isi_list, sx_isi_dict, sx_lenL, sx_lenT, atQ_some, sx_ixL, sx_ixT, at0, at1, at2, ixN30, ixN31, ixN32, sx_setIx, sx_set0, sx_set1, sx_set2, sx_slL, sx_slT, sx_tupL, sx_tupT, sx_listL, sx_listT, sx_sortL, sx_sortT, sx_int2, sx_toI, sx_toB, sx_repr, sx_repL, istup_t, istup_l, isint_i, isbool_i, datas_n, datas_c, Option.map_some, mset_same, mset_mset, List.map_cons, List.map_nil, List.length_cons, List.length_nil, List.getElem?_cons_zero, List.getElem?_cons_succ, List.set_cons_zero, List.set_cons_succ, List.replicate, List.cons_append, List.nil_append, Bool.not_true, Bool.false_eq_true, if_false]
    match ys, q with
    | [a, b], q =>
      simp only [dEnds, dC, dV, dOp, dTest, dChain, dAnd, dOr, dNot, dAndV, dOrV, dNotV, dIf, dNil, dCons, dTup, dLst, dLstF, dFrz, dUn, dNoPart, dPart, dSl, dCall, dNext, dSeq, dNever, dRet, dRetN, dExp, dIfS, dAsg, dPar2, dPar3, dRev, dMappend, dMcount, dgName, dgTup, dgCons, dgNil, rMul, rMod, rFdiv, rPow, rLt, rGt, rLe, rGe, rAny, rAll, rMax2, rMin2, rSub, dFn, dDict0, dDict1, dRngTup, dRngLst, dRg1, dRg2, dComp, dFor, diSeq, diRange1, diRange2, diZip, startD, wipeD, dYes, sx_v0, sx_v1, sx_v2, sx_v3, sx_v4, sx_v5, sx_v6, sx_v7, sx_v8, sx_v9, sx_addI, sx_addT, sx_addL, sx_int, sx_int0, sx_neg, sx_eqI, sx_neI, sx_ordI, sx_ordT, sx_inL, sx_inT, sx_isN, sx_isi_int, sx_isi_bool, sx_isi_str, sx_isi_tuple, sx_isi_list, sx_isi_dict, sx_lenL, sx_lenT, atQ_some, sx_ixL, sx_ixT, at0, at1, at2, ixN30, ixN31, ixN32, sx_setIx, sx_set0, sx_set1, sx_set2, sx_slL, sx_slT, sx_tupL, sx_tupT, sx_listL, sx_listT, sx_sortL, sx_sortT, sx_int2, sx_toI, sx_toB, sx_repr, sx_repL, istup_t, istup_l, isint_i, isbool_i, datas_n, datas_c, Option.map_some, mset_same, mset_mset, List.map_cons, List.map_nil, List.length_cons, List.length_nil, List.getElem?_cons_zero, List.getElem?_cons_succ, List.set_cons_zero, List.set_cons_succ, List.replicate, List.cons_append, List.nil_append, List.length_cons, List.length_nil]
      refine ⟨xs, a, rfl, hp, ?_⟩
      dsimp only
      by_cases h : isSpeakerOf xs a = true
      · simp only [h, if_true]
        refine ⟨xs, b, rfl, hp, m, .refl m, ?_⟩
        simpa [isAttackOf, h] using q
      · simp only [h, if_false, Bool.false_eq_true]
        refine ⟨m, .refl m, ?_⟩
        simpa [isAttackOf, h] using q
    | [], q => exact ⟨m, .refl m, q⟩
    | [a], q => exact ⟨m, .refl m, q⟩
    | a :: b :: c :: r, q =>
      have : (!decide (((a :: b :: c :: r).length : Int) = 2)) = true := by
        simp
        omega
      simp only [this, if_true]
      exact ⟨m, .refl m, q⟩
  · simp only [h, Bool.not_false, if_true]
    refine ⟨m, .refl m, ?_⟩
    cases d <;> first | exact q | cases h
theorem plainAll_mem : ∀ {xs : List PyData}, (∀ x ∈ xs, x.plain = true) → PyData.plainAll xs = true
  | [], _ => rfl
  | x :: xs, h => by
    rw [PyData.plainAll, h x (by simp), plainAll_mem fun y hy => h y (by simp [hy])]
    rfl
theorem isSet_plain {xs : List PyData} {last : Int} (h : isSet (.tuple xs) last = true) : PyData.plainAll xs = true := by
  simp only [isSet, Bool.and_eq_true, List.all_eq_true] at h
  refine plainAll_mem fun x hx => ?_
  obtain ⟨i, rfl, _⟩ := isNum_int (h.1 x hx)
  rfl
theorem isAttackOf_pr {xs : List PyData} {d : PyData} (h : isAttackOf xs d = true) : ∃ p : Int × Int, d = pr p := by
  unfold isAttackOf at h
  split at h
  · rename_i a b
    simp only [isSpeakerOf, Bool.and_eq_true] at h
    obtain ⟨i, rfl, _⟩ := isNum_int h.1.1
    obtain ⟨j, rfl, _⟩ := isNum_int h.2.1
    exact ⟨(i, j), rfl⟩
  · cases h
theorem ct_are_attacks_of : ∀ ws m Q E, sp_are_attacks_of ws m Q E → rd_are_attacks_of (dEnds Q) (startD N_are_attacks_of.length ws) m := by
  rintro ws m Q E ⟨xs, d, rfl, hp, q⟩
  simp only [rd_are_attacks_of, dEnds, dC, dV, dOp, dTest, dChain, dAnd, dOr, dNot, dAndV, dOrV, dNotV, dIf, dNil, dCons, dTup, dLst, dLstF, dFrz, dUn, dNoPart, dPart, dSl, dCall, dNext, dSeq, dNever, dRet, dRetN, dExp, dIfS, dAsg, dPar2, dPar3, dRev, dMappend, dMcount, dgName, dgTup, dgCons, dgNil, rMul, rMod, rFdiv, rPow, rLt, rGt, rLe, rGe, rAny, rAll, rMax2, rMin2, rSub, dFn, dDict0, dDict1, dRngTup, dRngLst, dRg1, dRg2, dComp, dFor, diSeq, diRange1, diRange2, diZip, startD, wipeD, dYes, sx_v0, sx_v1, sx_v2, sx_v3, sx_v4, sx_v5, sx_v6, sx_v7, sx_v8, sx_v9, sx_addI, sx_addT, sx_addL, sx_int, sx_int0, sx_neg, sx_eqI, sx_neI, sx_ordI, sx_ordT, sx_inL, sx_inT, sx_isN, sx_isi_int, sx_isi_bool, sx_isi_str, sx_isi_tuple, sx_isi_list, sx_isi_dict, sx_lenL, sx_lenT, atQ_some, sx_ixL, sx_ixT, at0, at1, at2, ixN30, ixN31, ixN32, sx_setIx, sx_set0, sx_set1, sx_set2, sx_slL, sx_slT, sx_tupL, sx_tupT, sx_listL, sx_listT, sx_sortL, sx_sortT, sx_int2, sx_toI, sx_toB, sx_repr, sx_repL, istup_t, istup_l, isint_i, isbool_i, datas_n, datas_c, Option.map_some, mset_same, mset_mset, List.map_cons, List.map_nil, List.length_cons, List.length_nil, List.getElem?_cons_zero, List.getElem?_cons_succ, List.set_cons_zero, List.set_cons_succ, List.replicate, List.cons_append, List.nil_append]
  rcases isTuple_cases d with ⟨ys, rfl⟩ | h
  · simp only [if_true, dEnds, dC, dV, dOp, dTest, dChain, dAnd, dOr, dNot, dAndV, dOrV, dNotV, dIf, dNil, dCons, dTup, dLst, dLstF, dFrz, dUn, dNoPart, dPart, dSl, dCall, dNext, dSeq, dNever, dRet, dRetN, dExp, dIfS, dAsg, dPar2, dPar3, dRev, dMappend, dMcount, dgName, dgTup, dgCons, dgNil, rMul, rMod, rFdiv, rPow, rLt, rGt, rLe, rGe, rAny, rAll, rMax2, rMin2, rSub, dFn, dDict0, dDict1, dRngTup, dRngLst, dRg1, dRg2, dComp, dFor, diSeq, diRange1, diRange2, diZip, startD, wipeD, dYes, sx_v0, sx_v1, sx_v2, sx_v3, sx_v4, sx_v5, sx_v6, sx_v7, sx_v8, sx_v9, sx_addI, sx_addT, sx_addL, sx_int, sx_int0, sx_neg, sx_eqI, sx_neI, sx_ordI, sx_ordT, sx_inL, sx_inT, sx_isN, sx_isi_int, sx_isi_bool, sx_isi_str, sx_isi_tuple, sx_isi_list, sx_isi_dict, sx_lenL, sx_lenT, atQ_some, sx_ixL, sx_ixT, at0, at1, at2, ixN30, ixN31, ixN32, sx_setIx, sx_set0, sx_set1, sx_set2, sx_slL, sx_slT, sx_tupL, sx_tupT, sx_listL, sx_listT, sx_sortL, sx_sortT, sx_int2, sx_toI, sx_toB, sx_repr, sx_repL, istup_t, istup_l, isint_i, isbool_i, datas_n, datas_c, Option.map_some, mset_same, mset_mset, List.map_cons, List.map_nil, List.length_cons, List.length_nil, List.getElem?_cons_zero, List.getElem?_cons_succ, List.set_cons_zero, List.set_cons_succ, List.replicate, List.cons_append, List.nil_append]
    refine compW_md (fun x => .bool (isAttackOf xs x)) (fun x hx k1 k0 h1 => ?_) ?_
    · simp only [Turn1, dEnds, dC, dV, dOp, dTest, dChain, dAnd, dOr, dNot, dAndV, dOrV, dNotV, dIf, dNil, dCons, dTup, dLst, dLstF, dFrz, dUn, dNoPart, dPart, dSl, dCall, dNext, dSeq, dNever, dRet, dRetN, dExp, dIfS, dAsg, dPar2, dPar3, dRev, dMappend, dMcount, dgName, dgTup, dgCons, dgNil, rMul, rMod, rFdiv, rPow, rLt, rGt, rLe, rGe, rAny, rAll, rMax2, rMin2, rSub, dFn, dDict0, dDict1, dRngTup, dRngLst, dRg1, dRg2, dComp, dFor, diSeq, diRange1, diRange2, diZip, startD, wipeD, dYes, sx_v0, sx_v1, sx_v2, sx_v3, sx_v4, sx_v5, sx_v6, sx_v7, sx_v8, sx_v9, sx_addI, sx_addT, sx_addL, sx_int, sx_int0, sx_neg, sx_eqI, sx_neI, sx_ordI, sx_ordT, sx_inL, sx_inT, sx_isN, sx_isi_int, sx_isi_bool, sx_isi_str, sx_isi_tuple, sx_isi_list, sx_isi_dict, sx_lenL, sx_lenT, atQ_some, sx_ixL, sx_ixT, at0, at1, at2, ixN30, ixN31, ixN32, sx_setIx, sx_set0, sx_set1, sx_set2, sx_slL, sx_slT, sx_tupL, sx_tupT, sx_listL, sx_listT, sx_sortL, sx_sortT, sx_int2, sx_toI, sx_toB, sx_repr, sx_repL, istup_t, istup_l, isint_i, isbool_i, datas_n, datas_c, Option.map_some, mset_same, mset_mset, List.map_cons, List.map_nil, List.length_cons, List.length_nil, List.getElem?_cons_zero, List.getElem?_cons_succ, List.set_cons_zero, List.set_cons_succ, List.replicate, List.cons_append, List.nil_append, if_true]
      exact ⟨_, _, rfl, hp, h1⟩
    · rw [sx_bools (boolsOf_f (fun x => isAttackOf xs x) ys)]
      dsimp only
      by_cases ha : ys.all (isAttackOf xs) = true
      · have : ((ys.map fun x => isAttackOf xs x).all id) = true := by rw [List.all_map]; exact ha
        simp only [this, if_true]
        refine ⟨ys, rfl, fun x hx y hy => ?_, m, .refl m, ?_⟩
        · obtain ⟨i, rfl⟩ := isAttackOf_pr (List.all_eq_true.mp ha x hx)
          obtain ⟨j, rfl⟩ := isAttackOf_pr (List.all_eq_true.mp ha y hy)
          exact ordOk_P i j
        · simpa [areAttacksOf, ha] using q
      · have : ((ys.map fun x => isAttackOf xs x).all id) = false := by rw [List.all_map]; simpa using ha
        simp only [this, Bool.false_eq_true, if_false]
        refine ⟨m, .refl m, ?_⟩
        have ha' : ys.all (isAttackOf xs) = false := by simpa using ha
        simpa [areAttacksOf, ha'] using q
  · simp only [h, Bool.false_eq_true, if_false]
    refine ⟨m, .refl m, ?_⟩
    cases d <;> first | exact q | cases h
theorem areSpeakers_tuple {d : PyData} (h : areSpeakers d = true) : ∃ xs, d = .tuple xs ∧ PyData.plainAll xs = true := by
  unfold areSpeakers at h
  rw [Bool.and_eq_true] at h
  rcases isTuple_cases d with ⟨xs, rfl⟩ | h'
  · exact ⟨xs, rfl, isSet_plain h.1⟩
  · cases d <;> first | (cases h'; done) | exact absurd h.2 (by simp)
theorem ct_is_debate : ∀ ws m Q E, sp_is_debate ws m Q E → rd_is_debate (dEnds Q) (startD N_is_debate.length ws) m := by
  rintro ws m Q E ⟨d, rfl, q⟩
  simp only [rd_is_debate, dEnds, dC, dV, dOp, dTest, dChain, dAnd, dOr, dNot, dAndV, dOrV, dNotV, dIf, dNil, dCons, dTup, dLst, dLstF, dFrz, dUn, dNoPart, dPart, dSl, dCall, dNext, dSeq, dNever, dRet, dRetN, dExp, dIfS, dAsg, dPar2, dPar3, dRev, dMappend, dMcount, dgName, dgTup, dgCons, dgNil, rMul, rMod, rFdiv, rPow, rLt, rGt, rLe, rGe, rAny, rAll, rMax2, rMin2, rSub, dFn, dDict0, dDict1, dRngTup, dRngLst, dRg1, dRg2, dComp, dFor, diSeq, diRange1, diRange2, diZip, startD, wipeD, dYes, sx_v0, sx_v1, sx_v2, sx_v3, sx_v4, sx_v5, sx_v6, sx_v7, sx_v8, sx_v9, sx_addI, sx_addT, sx_addL, sx_int, sx_int0, sx_neg, sx_eqI, sx_neI, sx_ordI, sx_ordT, sx_inL, sx_inT, sx_isN, sx_isi_int, sx_isi_bool, sx_isi_str, sx_isi_tuple, sx_isi_list, sx_isi_dict, sx_lenL, sx_lenT, atQ_some, sx_ixL, sx_ixT, at0, at1, at2, ixN30, ixN31, ixN32, sx_setIx, sx_set0, sx_set1, sx_set2, sx_slL, sx_slT, sx_tupL, sx_tupT, sx_listL, sx_listT, sx_sortL, sx_sortT, sx_int2, sx_toI, sx_toB, sx_repr, sx_repL, istup_t, istup_l, isint_i, isbool_i, datas_n, datas_c, Option.map_some, mset_same, mset_mset, List.map_cons, List.map_nil, List.length_cons, List.length_nil, List.getElem?_cons_zero, List.getElem?_cons_succ, List.set_cons_zero, List.set_cons_succ, List.replicate, List.cons_append, List.nil_append]
  rcases isTuple_cases d with ⟨ys, rfl⟩ | h
  · simp only [if_true, dEnds, dC, dV, dOp, dTest, dChain, dAnd, dOr, dNot, dAndV, dOrV, dNotV, dIf, dNil, dCons, dTup, dLst, dLstF, dFrz, dUn, dNoPart, dPart, dSl, dCall, dNext, dSeq, dNever, dRet, dRetN, dExp, dIfS, dAsg, dPar2, dPar3, dRev, dMappend, dMcount, dgName, dgTup, dgCons, dgNil, rMul, rMod, rFdiv, rPow, rLt, rGt, rLe, rGe, rAny, rAll, rMax2, rMin2, rSub, dFn, dDict0, dDict1, dRngTup, dRngLst, dRg1, dRg2, dComp, dFor, diSeq, diRange1, diRange2, diZip, startD, wipeD, dYes, sx_v0, sx_v1, sx_v2, sx_v3, sx_v4, sx_v5, sx_v6, sx_v7, sx_v8, sx_v9, sx_addI, sx_addT, sx_addL, sx_int, sx_int0, sx_neg, sx_eqI, sx_neI, sx_ordI, sx_ordT, sx_inL, sx_inT, sx_isN, sx_isi_int, sx_isi_bool, sx_isi_str, sx_isi_tuple, sx_isi_list, sx_isi_dict, sx_lenL, sx_lenT, atQ_some, sx_ixL, sx_ixT, at0, at1, at2, ixN30, ixN31, ixN32, sx_setIx, sx_set0, sx_set1, sx_set2, sx_slL, sx_slT, sx_tupL, sx_tupT, sx_listL, sx_listT, sx_sortL, sx_sortT, sx_int2, sx_toI, sx_toB, sx_repr, sx_repL, istup_t, istup_l, isint_i, isbool_i, datas_n, datas_c, Option.map_some, mset_same, mset_mset, List.map_cons, List.map_nil, List.length_cons, List.length_nil, List.getElem?_cons_zero, List.getElem?_cons_succ, List.set_cons_zero, List.set_cons_succ, List.replicate, List.cons_append, List.nil_append, Bool.not_true, Bool.false_eq_true, if_false]
    match ys, q with
    | [a, b], q =>
      simp only [dEnds, dC, dV, dOp, dTest, dChain, dAnd, dOr, dNot, dAndV, dOrV, dNotV, dIf, dNil, dCons, dTup, dLst, dLstF, dFrz, dUn, dNoPart, dPart, dSl, dCall, dNext, dSeq, dNever, dRet, dRetN, dExp, dIfS, dAsg, dPar2, dPar3, dRev, dMappend, dMcount, dgName, dgTup, dgCons, dgNil, rMul, rMod, rFdiv, rPow, rLt, rGt, rLe, rGe, rAny, rAll, rMax2, rMin2, rSub, dFn, dDict0, dDict1, dRngTup, dRngLst, dRg1, dRg2, dComp, dFor, diSeq, diRange1, diRange2, diZip, startD, wipeD, dYes, sx_v0, sx_v1, sx_v2, sx_v3, sx_v4, sx_v5, sx_v6, sx_v7, sx_v8, sx_v9, sx_addI, sx_addT, sx_addL, sx_int, sx_int0, sx_neg, sx_eqI, sx_neI, sx_ordI, sx_ordT, sx_inL, sx_inT, sx_isN, sx_isi_int, sx_isi_bool, sx_isi_str, sx_isi_tuple, sx_isi_list, sx_isi_dict, sx_lenL, sx_lenT, atQ_some, sx_ixL, sx_ixT, at0, at1, at2, ixN30, ixN31, ixN32, sx_setIx, sx_set0, sx_set1, sx_set2, sx_slL, sx_slT, sx_tupL, sx_tupT, sx_listL, sx_listT, sx_sortL, sx_sortT, sx_int2, sx_toI, sx_toB, sx_repr, sx_repL, istup_t, istup_l, isint_i, isbool_i, datas_n, datas_c, Option.map_some, mset_same, mset_mset, List.map_cons, List.map_nil, List.length_cons, List.length_nil, List.getElem?_cons_zero, List.getElem?_cons_succ, List.set_cons_zero, List.set_cons_succ, List.replicate, List.cons_append, List.nil_append, List.length_cons, List.length_nil]
      refine ⟨a, rfl, ?_⟩
      dsimp only
      by_cases h : areSpeakers a = true
      · simp only [h, if_true]
        obtain ⟨xs, rfl, hp⟩ := areSpeakers_tuple h
        refine ⟨xs, b, rfl, hp, m, .refl m, ?_⟩
        simpa [isDebate, h] using q
      · simp only [h, if_false, Bool.false_eq_true]
        refine ⟨m, .refl m, ?_⟩
        have h' : areSpeakers a = false := by simpa using h
        have : isDebate (.tuple [a, b]) = false := by
          cases a <;> first | rfl | simp [isDebate, h']
        rw [this] at q
        exact q
    | [], q => exact ⟨m, .refl m, q⟩
    | [a], q =>
      have : isDebate (.tuple [a]) = false := by cases a <;> rfl
      rw [this] at q
      exact ⟨m, .refl m, q⟩
    | a :: b :: c :: r, q =>
      have h3 : (!decide (((a :: b :: c :: r).length : Int) = 2)) = true := by
        simp
        omega
      simp only [h3, if_true]
      have : isDebate (.tuple (a :: b :: c :: r)) = false := by
        cases a <;> rfl
      rw [this] at q
      exact ⟨m, .refl m, q⟩
  · simp only [h, Bool.not_false, if_true]
    refine ⟨m, .refl m, ?_⟩
    cases d <;> first | exact q | cases h
end DL
end
section
set_option maxHeartbeats 1000000
namespace DL
open PySem PySem.Spec L2
open PyProof.Rows hiding St

/-! ### rising rows -/
theorem strict_ext {α : Type} {lt : α → α → Prop} (as : ∀ a b, lt a b → lt b a → False) : ∀ {xs ys : List α}, xs.Pairwise lt → ys.Pairwise lt → (∀ z, z ∈ xs ↔ z ∈ ys) → xs = ys
  | [], [], _, _, _ => rfl
  | [], y :: ys, _, _, h => absurd ((h y).2 (by simp)) (by simp)
  | x :: xs, [], _, _, h => absurd ((h x).1 (by simp)) (by simp)
  | x :: xs, y :: ys, hx, hy, h => by
    rw [List.pairwise_cons] at hx hy
    have exy : x = y := by
      rcases List.mem_cons.mp ((h x).1 (by simp)) with e | e
      · exact e
      rcases List.mem_cons.mp ((h y).2 (by simp)) with e' | e'
      · exact e'.symm
      exact (as _ _ (hx.1 y e') (hy.1 x e)).elim
    subst exy
    rw [strict_ext as hx.2 hy.2 fun z => ⟨fun hz => ?_, fun hz => ?_⟩]
    · rcases List.mem_cons.mp ((h z).1 (by simp [hz])) with e | e
      · subst e; exact (as _ _ (hx.1 z hz) (hx.1 z hz)).elim
      · exact e
    · rcases List.mem_cons.mp ((h z).2 (by simp [hz])) with e | e
      · subst e; exact (as _ _ (hy.1 z hz) (hy.1 z hz)).elim
      · exact e
theorem risesD_map {α : Type} (f : α → PyData) (lt : α → α → Bool) (hf : ∀ a b, PySem.W.dataLt (f a) (f b) = lt a b) (tr : ∀ a b c, lt a b = true → lt b c = true → lt a c = true) : ∀ xs : List α, risesD (xs.map f) = true ↔ xs.Pairwise fun a b => lt a b = true
  | [] => by simp [risesD]
  | [x] => by simp [risesD]
  | x :: y :: r => by
    have ih := risesD_map f lt hf tr (y :: r)
    show (PySem.W.dataLt (f x) (f y) && risesD ((y :: r).map f)) = true ↔ _
    rw [Bool.and_eq_true, hf, ih]
    constructor
    · rintro ⟨h1, h2⟩
      refine List.pairwise_cons.mpr ⟨fun z hz => ?_, h2⟩
      rcases List.mem_cons.mp hz with rfl | hz
      · exact h1
      · exact tr _ _ _ h1 ((List.pairwise_cons.mp h2).1 z hz)
    · intro h
      obtain ⟨h1, h2⟩ := List.pairwise_cons.mp h
      exact ⟨h1 y (by simp), h2⟩
theorem rises_I (xs : List Int) : risesD (xs.map PyData.int) = true ↔ xs.Pairwise (· < ·) := by
  rw [risesD_map PyData.int (fun a b => decide (a < b)) PySem.W.dataLt_int (fun a b c h1 h2 => decide_eq_true (by have := of_decide_eq_true h1; have := of_decide_eq_true h2; omega))]
  simp
theorem ltP_tr (a b c : Int × Int) (h1 : ltP a b = true) (h2 : ltP b c = true) : ltP a c = true := by
  simp only [ltP, decide_eq_true_eq] at *
  omega
theorem ltP_as (a b : Int × Int) (h1 : ltP a b = true) (h2 : ltP b a = true) : False := by
  simp only [ltP, decide_eq_true_eq] at *
  omega
theorem ltP_tri (a b : Int × Int) (h1 : ltP a b = false) (h2 : a ≠ b) : ltP b a = true := by
  simp only [ltP, decide_eq_true_eq, decide_eq_false_iff_not] at *
  have : ¬ (a.1 = b.1 ∧ a.2 = b.2) := fun h => h2 (Prod.ext h.1 h.2)
  omega
theorem rises_P (xs : List (Int × Int)) : risesD (xs.map pr) = true ↔ xs.Pairwise fun a b => ltP a b = true := risesD_map pr ltP dataLt_P ltP_tr xs
/-- the numbers 0, 1, .., n - 1 -/
def upTo (n : Nat) : List Int := (List.range n).map fun i => ((i : Nat) : Int)
theorem upTo_mem {n : Nat} {z : Int} : z ∈ upTo n ↔ 0 ≤ z ∧ z < n := by
  unfold upTo
  rw [List.mem_map]
  constructor
  · rintro ⟨i, hi, rfl⟩
    have := List.mem_range.mp hi
    omega
  · rintro ⟨h0, h1⟩
    exact ⟨z.toNat, List.mem_range.mpr (by omega), by omega⟩
theorem upTo_lt (n : Nat) : (upTo n).Pairwise (· < ·) := by
  unfold upTo
  rw [List.pairwise_map]
  exact List.pairwise_lt_range.imp fun h => by omega
theorem set_filter {ns : List Int} {n : Nat} (h : ∀ z ∈ ns, 0 ≤ z ∧ z < n) : (ns = (upTo n).filter fun z => decide (z ∈ ns)) ↔ ns.Pairwise (· < ·) := by
  constructor
  · intro e
    rw [e]
    exact (upTo_lt n).filter _
  · intro hp
    refine strict_ext (fun a b h1 h2 => by omega) hp ((upTo_lt n).filter _) fun z => ?_
    rw [List.mem_filter, upTo_mem, decide_eq_true_eq]
    exact ⟨fun hz => ⟨h z hz, hz⟩, fun hz => hz.2⟩
theorem nums_of {xs : List PyData} {lo hi : Int} (h : xs.all (fun x => isNum x lo hi) = true) : ∃ ns : List Int, xs = ns.map PyData.int ∧ ∀ z ∈ ns, lo ≤ z ∧ z ≤ hi := by
  induction xs with
  | nil => exact ⟨[], rfl, by simp⟩
  | cons x xs ih =>
    rw [List.all_cons, Bool.and_eq_true] at h
    obtain ⟨i, rfl, h1, h2⟩ := isNum_int h.1
    obtain ⟨ns, rfl, hn⟩ := ih h.2
    refine ⟨i :: ns, rfl, fun z hz => ?_⟩
    rcases List.mem_cons.mp hz with rfl | hz
    · exact ⟨h1, h2⟩
    · exact hn z hz
theorem all_nums {ns : List Int} {lo hi : Int} (h : ∀ z ∈ ns, lo ≤ z ∧ z ≤ hi) : (ns.map PyData.int).all (fun x => isNum x lo hi) = true := by
  rw [List.all_map, List.all_eq_true]
  intro z hz
  have := h z hz
  simp [isNum, this.1, this.2]

/-! ### the laws' own definition -/
def sp_law_is_number : DSp := fun ws m Q _ => ∃ d last, ws = [.d d, .d (.int last)] ∧ Q (.d (.bool (isNum d 0 last))) m
def sp_law_is_set : DSp := fun ws m Q _ => ∃ d last, ws = [.d d, .d (.int last)] ∧ 0 ≤ last ∧ last ≤ 1000 ∧ Q (.d (.bool (isSet d last))) m
/-- of at most 2^24 attacks -/
def lenOk (d : PyData) : Prop := ∀ a ys, d = .tuple [a, .tuple ys] → ys.length ≤ 16777216
def sp_law_is_debate : DSp := fun ws m Q _ => ∃ d, ws = [.d d] ∧ lenOk d ∧ Q (.d (.bool (isDebate d))) m
def sp_law_same : DSp := fun ws m Q _ => ∃ a b, ws = [.d a, .d b] ∧ ReprOk a ∧ ReprOk b ∧ Q (.d (.bool (decide (a.shown = b.shown)))) m
theorem tk_law_is_number : Takes 2 sp_law_is_number := by rintro ws m Q E ⟨d, lo, rfl, _⟩; rfl
theorem tk_law_is_set : Takes 2 sp_law_is_set := by rintro ws m Q E ⟨d, lo, rfl, _⟩; rfl
theorem tk_law_is_debate : Takes 1 sp_law_is_debate := by rintro ws m Q E ⟨d, rfl, _⟩; rfl
theorem tk_law_same : Takes 2 sp_law_same := by rintro ws m Q E ⟨d, lo, rfl, _⟩; rfl
abbrev N_law_is_number : List Str := ["_law_value", "_law_last"]
def rd_law_is_number : DTS := (dRet (dAndV (dCall rIsi (dCons (dVar 0) (dCons (dV (.ty "int")) dNil))) (dAndV (dNotV (dCall rIsi (dCons (dVar 0) (dCons (dV (.ty "bool")) dNil)))) (dChain rLe rLe (dC (.int 0)) (dVar 0) (dVar 1)))))

abbrev N_law_is_set : List Str := ["_law_value", "_law_last", "_law_one"]
def rd_law_is_set : DTS := (dSeq (dIfS (dNot (dTest (dCall rIsi (dCons (dVar 0) (dCons (dV (.ty "tuple")) dNil))))) (dRet (dC (.bool false))) dNext)
    (dSeq (dIfS (dTest (dOp rNe (dComp (diSeq (dVar 0)) (dgName 2) (dNot (dTest (dFn sp_law_is_number (dCons (dVar 2) (dCons (dVar 1) dNil))))) (dC (.int 1)) [2]) (dLstF dNil))) (dRet (dC (.bool false))) dNext)
    (dRet (dOp rEq (dCall rList (dCons (dVar 0) dNil)) (dComp (diRange1 (dCons (dOp rAdd (dVar 1) (dC (.int 1))) dNil)) (dgName 2) (dTest (dOp (rIn id) (dVar 2) (dVar 0))) (dVar 2) [2])))))

abbrev N_law_is_debate : List Str := ["_law_value", "_law_pair", "_law_one"]
def rd_law_is_debate : DTS := (dSeq (dIfS (dOr (dNot (dTest (dCall rIsi (dCons (dVar 0) (dCons (dV (.ty "tuple")) dNil))))) (dOr (dTest (dOp rNe (dCall rLen (dCons (dVar 0) dNil)) (dC (.int 2)))) (dOr (dNot (dTest (dFn sp_law_is_set (dCons (dOp rIx (dVar 0) (dC (.int 0))) (dCons (dC (.int 19)) dNil))))) (dTest (dOp rGt (dCall rLen (dCons (dOp rIx (dVar 0) (dC (.int 0))) dNil)) (dC (.int 15))))))) (dRet (dC (.bool false))) dNext)
    (dSeq (dIfS (dNot (dTest (dCall rIsi (dCons (dOp rIx (dVar 0) (dC (.int 1))) (dCons (dV (.ty "tuple")) dNil))))) (dRet (dC (.bool false))) dNext)
    (dSeq (dFor (diSeq (dOp rIx (dVar 0) (dC (.int 1)))) (dgName 1) (dSeq (dIfS (dOr (dNot (dTest (dCall rIsi (dCons (dVar 1) (dCons (dV (.ty "tuple")) dNil))))) (dTest (dOp rNe (dCall rLen (dCons (dVar 1) dNil)) (dC (.int 2))))) (dRet (dC (.bool false))) dNext)
    (dIfS (dTest (dOp rNe (dComp (diSeq (dVar 1)) (dgName 2) (dOr (dNot (dTest (dFn sp_law_is_number (dCons (dVar 2) (dCons (dC (.int 19)) dNil))))) (dTest (dOp (rIn not) (dVar 2) (dOp rIx (dVar 0) (dC (.int 0)))))) (dC (.int 1)) [2]) (dLstF dNil))) (dRet (dC (.bool false))) dNext)))
    (dRet (dAndV (dOp rEq (dCall rList (dCons (dOp rIx (dVar 0) (dC (.int 1))) dNil)) (dCall rSorted (dCons (dOp rIx (dVar 0) (dC (.int 1))) dNil))) (dOp rEq (dComp (diSeq (dOp rIx (dVar 0) (dC (.int 1)))) (dgName 1) dYes (dMcount (dOp rIx (dVar 0) (dC (.int 1))) (dCons (dVar 1) dNil)) [1]) (dOp rRepL (dLstF (dCons (dC (.int 1)) dNil)) (dCall rLen (dCons (dOp rIx (dVar 0) (dC (.int 1))) dNil)))))))))

abbrev N_law_same : List Str := ["_law_actual", "_law_due"]
def rd_law_same : DTS := (dRet (dOp rEq (dCall rRepr (dCons (dVar 0) dNil)) (dCall rRepr (dCons (dVar 1) dNil))))

theorem ct_law_same : ∀ ws m Q E, sp_law_same ws m Q E → rd_law_same (dEnds Q) (startD N_law_same.length ws) m := by
  rintro ws m Q E ⟨a, b, rfl, ha, hb, q⟩
  simp only [rd_law_same, dEnds, dC, dV, dOp, dTest, dChain, dAnd, dOr, dNot, dAndV, dOrV, dNotV, dIf, dNil, dCons, dTup, dLst, dLstF, dFrz, dUn, dNoPart, dPart, dSl, dCall, dNext, dSeq, dNever, dRet, dRetN, dExp, dIfS, dAsg, dPar2, dPar3, dRev, dMappend, dMcount, dgName, dgTup, dgCons, dgNil, rMul, rMod, rFdiv, rPow, rLt, rGt, rLe, rGe, rAny, rAll, rMax2, rMin2, rSub, dFn, dDict0, dDict1, dRngTup, dRngLst, dRg1, dRg2, dComp, dFor, diSeq, diRange1, diRange2, diZip, startD, wipeD, dYes, sx_v0, sx_v1, sx_v2, sx_v3, sx_v4, sx_v5, sx_v6, sx_v7, sx_v8, sx_v9, sx_addI, sx_addT, sx_addL, sx_int, sx_int0, sx_neg, sx_eqI, sx_neI, sx_ordI, sx_ordT, sx_inL, sx_inT, sx_isN, sx_isi_int, sx_isi_bool, sx_isi_str, sx_isi_tuple, sx_isi_list, sx_isi_dict, sx_lenL, sx_lenT, atQ_some, sx_ixL, sx_ixT, at0, at1, at2, ixN30, ixN31, ixN32, sx_setIx, sx_set0, sx_set1, sx_set2, sx_slL, sx_slT, sx_tupL, sx_tupT, sx_listL, sx_listT, sx_sortL, sx_sortT, sx_int2, sx_toI, sx_toB, sx_repr, sx_repL, istup_t, istup_l, isint_i, isbool_i, datas_n, datas_c, Option.map_some, mset_same, mset_mset, List.map_cons, List.map_nil, List.length_cons, List.length_nil, List.getElem?_cons_zero, List.getElem?_cons_succ, List.set_cons_zero, List.set_cons_succ, List.replicate, List.cons_append, List.nil_append]
  refine ⟨ha, hb, ?_⟩
  rw [sx_eq]
  refine ⟨by simp [pairOk, PyData.plain, PyData.depth], m, .refl m, ?_⟩
  have : PyData.eqv (.str a.shown) (.str b.shown) = decide (a.shown = b.shown) := by
    rw [Bool.eq_iff_iff]
    simp [PyData.eqv]
  rw [this]
  exact q
theorem ct_law_is_number : ∀ ws m Q E, sp_law_is_number ws m Q E → rd_law_is_number (dEnds Q) (startD N_law_is_number.length ws) m := by
  rintro ws m Q E ⟨d, last, rfl, q⟩
  simp only [rd_law_is_number, dEnds, dC, dV, dOp, dTest, dChain, dAnd, dOr, dNot, dAndV, dOrV, dNotV, dIf, dNil, dCons, dTup, dLst, dLstF, dFrz, dUn, dNoPart, dPart, dSl, dCall, dNext, dSeq, dNever, dRet, dRetN, dExp, dIfS, dAsg, dPar2, dPar3, dRev, dMappend, dMcount, dgName, dgTup, dgCons, dgNil, rMul, rMod, rFdiv, rPow, rLt, rGt, rLe, rGe, rAny, rAll, rMax2, rMin2, rSub, dFn, dDict0, dDict1, dRngTup, dRngLst, dRg1, dRg2, dComp, dFor, diSeq, diRange1, diRange2, diZip, startD, wipeD, dYes, sx_v0, sx_v1, sx_v2, sx_v3, sx_v4, sx_v5, sx_v6, sx_v7, sx_v8, sx_v9, sx_addI, sx_addT, sx_addL, sx_int, sx_int0, sx_neg, sx_eqI, sx_neI, sx_ordI, sx_ordT, sx_inL, sx_inT, sx_isN, sx_isi_int, sx_isi_bool, sx_isi_str, sx_isi_tuple, sx_isi_list, sx_isi_dict, sx_lenL, sx_lenT, atQ_some, sx_ixL, sx_ixT, at0, at1, at2, ixN30, ixN31, ixN32, sx_setIx, sx_set0, sx_set1, sx_set2, sx_slL, sx_slT, sx_tupL, sx_tupT, sx_listL, sx_listT, sx_sortL, sx_sortT, sx_int2, sx_toI, sx_toB, sx_repr, sx_repL, istup_t, istup_l, isint_i, isbool_i, datas_n, datas_c, Option.map_some, mset_same, mset_mset, List.map_cons, List.map_nil, List.length_cons, List.length_nil, List.getElem?_cons_zero, List.getElem?_cons_succ, List.set_cons_zero, List.set_cons_succ, List.replicate, List.cons_append, List.nil_append]
  cases d with
  | int i =>
    simp only [PyData.isInt, PyData.isBool, dEnds, dC, dV, dOp, dTest, dChain, dAnd, dOr, dNot, dAndV, dOrV, dNotV, dIf, dNil, dCons, dTup, dLst, dLstF, dFrz, dUn, dNoPart, dPart, dSl, dCall, dNext, dSeq, dNever, dRet, dRetN, dExp, dIfS, dAsg, dPar2, dPar3, dRev, dMappend, dMcount, dgName, dgTup, dgCons, dgNil, rMul, rMod, rFdiv, rPow, rLt, rGt, rLe, rGe, rAny, rAll, rMax2, rMin2, rSub, dFn, dDict0, dDict1, dRngTup, dRngLst, dRg1, dRg2, dComp, dFor, diSeq, diRange1, diRange2, diZip, startD, wipeD, dYes, sx_v0, sx_v1, sx_v2, sx_v3, sx_v4, sx_v5, sx_v6, sx_v7, sx_v8, sx_v9, sx_addI, sx_addT, sx_addL, sx_int, sx_int0, sx_neg, sx_eqI, sx_neI, sx_ordI, sx_ordT, sx_inL, sx_inT, sx_isN, sx_isi_int, sx_isi_bool, sx_isi_str, sx_isi_tuple, sx_isi_list, sx_isi_dict, sx_lenL, sx_lenT, atQ_some, sx_ixL, sx_ixT, at0, at1, at2, ixN30, ixN31, ixN32, sx_setIx, sx_set0, sx_set1, sx_set2, sx_slL, sx_slT, sx_tupL, sx_tupT, sx_listL, sx_listT, sx_sortL, sx_sortT, sx_int2, sx_toI, sx_toB, sx_repr, sx_repL, istup_t, istup_l, isint_i, isbool_i, datas_n, datas_c, Option.map_some, mset_same, mset_mset, List.map_cons, List.map_nil, List.length_cons, List.length_nil, List.getElem?_cons_zero, List.getElem?_cons_succ, List.set_cons_zero, List.set_cons_succ, List.replicate, List.cons_append, List.nil_append, if_true, Bool.not_false]
    by_cases h : 0 ≤ i
    · simp only [h, decide_true]
      exact ⟨m, .refl m, by simpa [isNum, h] using q⟩
    · simp only [h, decide_false]
      exact ⟨m, .refl m, by simpa [isNum, h] using q⟩
  | bool b => exact ⟨m, .refl m, q⟩
  | none => exact ⟨m, .refl m, q⟩
  | str _ => exact ⟨m, .refl m, q⟩
  | list _ => exact ⟨m, .refl m, q⟩
  | tuple _ => exact ⟨m, .refl m, q⟩
  | dict _ => exact ⟨m, .refl m, q⟩
theorem filterMap_if {α β : Type} (p : α → Bool) (f : α → β) (xs : List α) : xs.filterMap (fun x => if p x = true then some (f x) else none) = (xs.filter p).map f := by
  induction xs with
  | nil => rfl
  | cons x xs ih =>
    rw [List.filterMap_cons, List.filter_cons]
    by_cases h : p x = true
    · simp [h, ih]
    · simp [h, ih]
theorem ones_none (n : Nat) : pairOk (.list (List.replicate n (PyData.int 1))) (.list []) = true ∧ PyData.eqv (.list (List.replicate n (PyData.int 1))) (.list []) = decide (n = 0) := by
  have e : List.replicate n (PyData.int 1) = (List.replicate n (1 : Int)).map PyData.int := by rw [List.map_replicate]
  rw [e]
  refine ⟨pairOk_II _ [], (eqv_II _ []).trans ?_⟩
  cases n <;> simp
theorem ct_law_is_set : ∀ ws m Q E, sp_law_is_set ws m Q E → rd_law_is_set (dEnds Q) (startD N_law_is_set.length ws) m := by
  rintro ws m Q E ⟨d, last, rfl, h0, h1, q⟩
  simp only [rd_law_is_set, dEnds, dC, dV, dOp, dTest, dChain, dAnd, dOr, dNot, dAndV, dOrV, dNotV, dIf, dNil, dCons, dTup, dLst, dLstF, dFrz, dUn, dNoPart, dPart, dSl, dCall, dNext, dSeq, dNever, dRet, dRetN, dExp, dIfS, dAsg, dPar2, dPar3, dRev, dMappend, dMcount, dgName, dgTup, dgCons, dgNil, rMul, rMod, rFdiv, rPow, rLt, rGt, rLe, rGe, rAny, rAll, rMax2, rMin2, rSub, dFn, dDict0, dDict1, dRngTup, dRngLst, dRg1, dRg2, dComp, dFor, diSeq, diRange1, diRange2, diZip, startD, wipeD, dYes, sx_v0, sx_v1, sx_v2, sx_v3, sx_v4, sx_v5, sx_v6, sx_v7, sx_v8, sx_v9, sx_addI, sx_addT, sx_addL, sx_int, sx_int0, sx_neg, sx_eqI, sx_neI, sx_ordI, sx_ordT, sx_inL, sx_inT, sx_isN, sx_isi_int, sx_isi_bool, sx_isi_str, sx_isi_tuple, sx_isi_list, sx_isi_dict, sx_lenL, sx_lenT, atQ_some, sx_ixL, sx_ixT, at0, at1, at2, ixN30, ixN31, ixN32, sx_setIx, sx_set0, sx_set1, sx_set2, sx_slL, sx_slT, sx_tupL, sx_tupT, sx_listL, sx_listT, sx_sortL, sx_sortT, sx_int2, sx_toI, sx_toB, sx_repr, sx_repL, istup_t, istup_l, isint_i, isbool_i, datas_n, datas_c, Option.map_some, mset_same, mset_mset, List.map_cons, List.map_nil, List.length_cons, List.length_nil, List.getElem?_cons_zero, List.getElem?_cons_succ, List.set_cons_zero, List.set_cons_succ, List.replicate, List.cons_append, List.nil_append]
  rcases isTuple_cases d with ⟨xs, rfl⟩ | h
  · simp only [if_true, dEnds, dC, dV, dOp, dTest, dChain, dAnd, dOr, dNot, dAndV, dOrV, dNotV, dIf, dNil, dCons, dTup, dLst, dLstF, dFrz, dUn, dNoPart, dPart, dSl, dCall, dNext, dSeq, dNever, dRet, dRetN, dExp, dIfS, dAsg, dPar2, dPar3, dRev, dMappend, dMcount, dgName, dgTup, dgCons, dgNil, rMul, rMod, rFdiv, rPow, rLt, rGt, rLe, rGe, rAny, rAll, rMax2, rMin2, rSub, dFn, dDict0, dDict1, dRngTup, dRngLst, dRg1, dRg2, dComp, dFor, diSeq, diRange1, diRange2, diZip, startD, wipeD, dYes, sx_v0, sx_v1, sx_v2, sx_v3, sx_v4, sx_v5, sx_v6, sx_v7, sx_v8, sx_v9, sx_addI, sx_addT, sx_addL, sx_int, sx_int0, sx_neg, sx_eqI, sx_neI, sx_ordI, sx_ordT, sx_inL, sx_inT, sx_isN, sx_isi_int, sx_isi_bool, sx_isi_str, sx_isi_tuple, sx_isi_list, sx_isi_dict, sx_lenL, sx_lenT, atQ_some, sx_ixL, sx_ixT, at0, at1, at2, ixN30, ixN31, ixN32, sx_setIx, sx_set0, sx_set1, sx_set2, sx_slL, sx_slT, sx_tupL, sx_tupT, sx_listL, sx_listT, sx_sortL, sx_sortT, sx_int2, sx_toI, sx_toB, sx_repr, sx_repL, istup_t, istup_l, isint_i, isbool_i, datas_n, datas_c, Option.map_some, mset_same, mset_mset, List.map_cons, List.map_nil, List.length_cons, List.length_nil, List.getElem?_cons_zero, List.getElem?_cons_succ, List.set_cons_zero, List.set_cons_succ, List.replicate, List.cons_append, List.nil_append, Bool.not_true, Bool.false_eq_true, if_false]
    refine compW_fd (fun x => if (!isNum x 0 last) = true then some (.int 1) else none) (fun x hx k1 k0 h1 h0 => ?_) ?_
    · simp only [Turn1, dEnds, dC, dV, dOp, dTest, dChain, dAnd, dOr, dNot, dAndV, dOrV, dNotV, dIf, dNil, dCons, dTup, dLst, dLstF, dFrz, dUn, dNoPart, dPart, dSl, dCall, dNext, dSeq, dNever, dRet, dRetN, dExp, dIfS, dAsg, dPar2, dPar3, dRev, dMappend, dMcount, dgName, dgTup, dgCons, dgNil, rMul, rMod, rFdiv, rPow, rLt, rGt, rLe, rGe, rAny, rAll, rMax2, rMin2, rSub, dFn, dDict0, dDict1, dRngTup, dRngLst, dRg1, dRg2, dComp, dFor, diSeq, diRange1, diRange2, diZip, startD, wipeD, dYes, sx_v0, sx_v1, sx_v2, sx_v3, sx_v4, sx_v5, sx_v6, sx_v7, sx_v8, sx_v9, sx_addI, sx_addT, sx_addL, sx_int, sx_int0, sx_neg, sx_eqI, sx_neI, sx_ordI, sx_ordT, sx_inL, sx_inT, sx_isN, sx_isi_int, sx_isi_bool, sx_isi_str, sx_isi_tuple, sx_isi_list, sx_isi_dict, sx_lenL, sx_lenT, atQ_some, sx_ixL, sx_ixT, at0, at1, at2, ixN30, ixN31, ixN32, sx_setIx, sx_set0, sx_set1, sx_set2, sx_slL, sx_slT, sx_tupL, sx_tupT, sx_listL, sx_listT, sx_sortL, sx_sortT, sx_int2, sx_toI, sx_toB, sx_repr, sx_repL, istup_t, istup_l, isint_i, isbool_i, datas_n, datas_c, Option.map_some, mset_same, mset_mset, List.map_cons, List.map_nil, List.length_cons, List.length_nil, List.getElem?_cons_zero, List.getElem?_cons_succ, List.set_cons_zero, List.set_cons_succ, List.replicate, List.cons_append, List.nil_append]
      refine ⟨x, last, rfl, ?_⟩
      dsimp only
      by_cases hn : isNum x 0 last = true
      · simp [hn] at h0 ⊢
        exact h0
      · simp [hn] at h1 ⊢
        exact h1
    · rw [filterMap_if (fun x => !isNum x 0 last)]
      rw [List.map_const', sx_ne, (ones_none _).2]
      refine ⟨by decide, (ones_none _).1, ?_⟩
      dsimp only
      by_cases ha : xs.all (fun x => isNum x 0 last) = true
      · have hl : (List.filter (fun x => !isNum x 0 last) xs).length = 0 := by
          rw [List.length_eq_zero_iff, List.filter_eq_nil_iff]
          intro x hx
          simpa using List.all_eq_true.mp ha x hx
        simp only [hl, decide_true, Bool.not_true, Bool.false_eq_true, if_false]
        refine ⟨by omega, by omega, ?_⟩
        obtain ⟨ns, rfl, hns⟩ := nums_of ha
        refine compW_fr (fun i => if decide (i ∈ ns) = true then some (.int i) else none) (fun i hi k1 k0 h1 h0 => ?_) ?_
        · simp only [Turn1, dEnds, dC, dV, dOp, dTest, dChain, dAnd, dOr, dNot, dAndV, dOrV, dNotV, dIf, dNil, dCons, dTup, dLst, dLstF, dFrz, dUn, dNoPart, dPart, dSl, dCall, dNext, dSeq, dNever, dRet, dRetN, dExp, dIfS, dAsg, dPar2, dPar3, dRev, dMappend, dMcount, dgName, dgTup, dgCons, dgNil, rMul, rMod, rFdiv, rPow, rLt, rGt, rLe, rGe, rAny, rAll, rMax2, rMin2, rSub, dFn, dDict0, dDict1, dRngTup, dRngLst, dRg1, dRg2, dComp, dFor, diSeq, diRange1, diRange2, diZip, startD, wipeD, dYes, sx_v0, sx_v1, sx_v2, sx_v3, sx_v4, sx_v5, sx_v6, sx_v7, sx_v8, sx_v9, sx_addI, sx_addT, sx_addL, sx_int, sx_int0, sx_neg, sx_eqI, sx_neI, sx_ordI, sx_ordT, sx_inL, sx_inT, sx_isN, sx_isi_int, sx_isi_bool, sx_isi_str, sx_isi_tuple, sx_isi_list, sx_isi_dict, sx_lenL, sx_lenT, atQ_some, sx_ixL, sx_ixT, at0, at1, at2, ixN30, ixN31, ixN32, sx_setIx, sx_set0, sx_set1, sx_set2, sx_slL, sx_slT, sx_tupL, sx_tupT, sx_listL, sx_listT, sx_sortL, sx_sortT, sx_int2, sx_toI, sx_toB, sx_repr, sx_repL, istup_t, istup_l, isint_i, isbool_i, datas_n, datas_c, Option.map_some, mset_same, mset_mset, List.map_cons, List.map_nil, List.length_cons, List.length_nil, List.getElem?_cons_zero, List.getElem?_cons_succ, List.set_cons_zero, List.set_cons_succ, List.replicate, List.cons_append, List.nil_append, any_I, inOk_I, id, true_and]
          by_cases hm : (0 + (i : Int)) ∈ ns
          · simp only [hm, decide_true, if_true] at h1 ⊢
            exact h1 _ rfl
          · simp only [hm, decide_false, Bool.false_eq_true, if_false] at h0 ⊢
            exact h0 trivial
        · have hn : ((last + 1).toNat : Int) = last + 1 := by omega
          have e : ((List.range (last + 1).toNat).filterMap fun i => (fun i : Int => if decide (i ∈ ns) = true then some (PyData.int i) else none) (0 + (i : Nat))) = ((upTo (last + 1).toNat).filter fun z => decide (z ∈ ns)).map PyData.int := by
            rw [← filterMap_if, upTo, List.filterMap_map]
            congr 1
            funext i
            simp
          rw [e, sx_eq, eqv_II]
          refine ⟨pairOk_II _ _, m, .refl m, ?_⟩
          have e2 : isSet (.tuple (ns.map PyData.int)) last = decide (ns = (upTo (last + 1).toNat).filter fun z => decide (z ∈ ns)) := by
            rw [Bool.eq_iff_iff, decide_eq_true_eq, set_filter (fun z hz => by have := hns z hz; omega)]
            show ((ns.map PyData.int).all (fun x => isNum x 0 last) && risesD (ns.map PyData.int)) = true ↔ _
            rw [ha, Bool.true_and, rises_I]
          rw [← e2]
          exact q
      · have hl : (List.filter (fun x => !isNum x 0 last) xs).length ≠ 0 := by
          intro e
          rw [List.length_eq_zero_iff, List.filter_eq_nil_iff] at e
          exact ha (List.all_eq_true.mpr fun x hx => by simpa using e x hx)
        simp only [hl, decide_false, Bool.not_false, if_true]
        refine ⟨m, .refl m, ?_⟩
        have ha' : xs.all (fun x => isNum x 0 last) = false := by simpa using ha
        simpa [isSet, ha'] using q
  · simp only [h, Bool.not_false, if_true]
    refine ⟨m, .refl m, ?_⟩
    cases d <;> first | exact q | cases h
theorem isDebate_bad {a b : PyData} (h : areSpeakers a = false) : isDebate (.tuple [a, b]) = false := by
  cases a <;> first | rfl | simp [isDebate, h]
theorem isDebate_far {a b c : PyData} {r : List PyData} : isDebate (.tuple (a :: b :: c :: r)) = false := by cases a <;> rfl
theorem isDebate_one {a : PyData} : isDebate (.tuple [a]) = false := by cases a <;> rfl
theorem len_far {a b c : PyData} {r : List PyData} : decide (((a :: b :: c :: r).length : Int) = 2) = false := by
  simp
  omega
theorem attacks_of {xs ys : List PyData} (h : ys.all (isAttackOf xs) = true) : ∃ ps : List (Int × Int), ys = ps.map pr := by
  induction ys with
  | nil => exact ⟨[], rfl⟩
  | cons y ys ih =>
    rw [List.all_cons, Bool.and_eq_true] at h
    obtain ⟨p, rfl⟩ := isAttackOf_pr h.1
    obtain ⟨ps, rfl⟩ := ih h.2
    exact ⟨p :: ps, rfl⟩
theorem sorted_P (ps : List (Int × Int)) : (sortP ps).Pairwise fun a b => (!ltP b a) = true :=
  List.pairwise_mergeSort (fun a b c h1 h2 => by
    simp only [ltP, Bool.not_eq_true', decide_eq_false_iff_not] at *
    omega) (fun a b => by
    simp only [ltP, Bool.or_eq_true, Bool.not_eq_true', decide_eq_false_iff_not]
    omega) ps
theorem once_P (ps : List (Int × Int)) : (ps = sortP ps ∧ ∀ p ∈ ps, ps.countP (fun y => decide (y = p)) = 1) ↔ ps.Pairwise fun a b => ltP a b = true := by
  constructor
  · rintro ⟨h1, h2⟩
    have hs := sorted_P ps
    rw [← h1] at hs
    clear h1
    induction ps with
    | nil => exact .nil
    | cons p ps ih =>
      rw [List.pairwise_cons] at hs ⊢
      have hp : p ∉ ps := by
        intro hm
        have := h2 p (by simp)
        rw [List.countP_cons_of_pos (by simp)] at this
        have h3 : 0 < ps.countP fun y => decide (y = p) := List.countP_pos_iff.mpr ⟨p, hm, by simp⟩
        omega
      refine ⟨fun q hq => ?_, ih (fun q hq => ?_) hs.2⟩
      · refine Decidable.byContradiction fun hn => ?_
        have hne : p ≠ q := fun e => by subst e; exact hp hq
        have h5 := ltP_tri p q (by simpa using hn) hne
        have h6 := hs.1 q hq
        rw [h5] at h6
        cases h6
      · have := h2 q (by simp [hq])
        rwa [List.countP_cons_of_neg (by
          intro e
          have e' : p = q := by simpa using e
          subst e'
          exact hp hq)] at this
  · intro h
    constructor
    · unfold sortP
      rw [List.mergeSort_of_pairwise]
      refine h.imp fun {a b} hab => ?_
      cases hb : ltP b a with
      | false => rfl
      | true => exact (ltP_as _ _ hab hb).elim
    · induction ps with
      | nil => simp
      | cons p ps ih =>
        rw [List.pairwise_cons] at h
        intro q hq
        have hp : ∀ z ∈ ps, z ≠ p := fun z hz e => by
          subst e
          exact ltP_as _ _ (h.1 z hz) (h.1 z hz)
        rcases List.mem_cons.mp hq with rfl | hq
        · rw [List.countP_cons_of_pos (by simp)]
          have : ps.countP (fun y => decide (y = q)) = 0 := List.countP_eq_zero.mpr fun z hz => by simpa using hp z hz
          omega
        · rw [List.countP_cons_of_neg (by simpa using fun e => hp q hq e.symm)]
          exact ih h.2 q hq
theorem ct_law_is_debate : ∀ ws m Q E, sp_law_is_debate ws m Q E → rd_law_is_debate (dEnds Q) (startD N_law_is_debate.length ws) m := by
  rintro ws m Q E ⟨d, rfl, hlen, q⟩
  simp only [rd_law_is_debate, dEnds, dC, dV, dOp, dTest, dChain, dAnd, dOr, dNot, dAndV, dOrV, dNotV, dIf, dNil, dCons, dTup, dLst, dLstF, dFrz, dUn, dNoPart, dPart, dSl, dCall, dNext, dSeq, dNever, dRet, dRetN, dExp, dIfS, dAsg, dPar2, dPar3, dRev, dMappend, dMcount, dgName, dgTup, dgCons, dgNil, rMul, rMod, rFdiv, rPow, rLt, rGt, rLe, rGe, rAny, rAll, rMax2, rMin2, rSub, dFn, dDict0, dDict1, dRngTup, dRngLst, dRg1, dRg2, dComp, dFor, diSeq, diRange1, diRange2, diZip, startD, wipeD, dYes, sx_v0, sx_v1, sx_v2, sx_v3, sx_v4, sx_v5, sx_v6, sx_v7, sx_v8, sx_v9, sx_addI, sx_addT, sx_addL, sx_int, sx_int0, sx_neg, sx_eqI, sx_neI, sx_ordI, sx_ordT, sx_inL, sx_inT, sx_isN, sx_isi_int, sx_isi_bool, sx_isi_str, sx_isi_tuple, sx_isi_list, sx_isi_dict, sx_lenL, sx_lenT, atQ_some, sx_ixL, sx_ixT, at0, at1, at2, ixN30, ixN31, ixN32, sx_setIx, sx_set0, sx_set1, sx_set2, sx_slL, sx_slT, sx_tupL, sx_tupT, sx_listL, sx_listT, sx_sortL, sx_sortT, sx_int2, sx_toI, sx_toB, sx_repr, sx_repL, istup_t, istup_l, isint_i, isbool_i, datas_n, datas_c, Option.map_some, mset_same, mset_mset, List.map_cons, List.map_nil, List.length_cons, List.length_nil, List.getElem?_cons_zero, List.getElem?_cons_succ, List.set_cons_zero, List.set_cons_succ, List.replicate, List.cons_append, List.nil_append]
  rcases isTuple_cases d with ⟨ys, rfl⟩ | h
  · simp only [if_true, dEnds, dC, dV, dOp, dTest, dChain, dAnd, dOr, dNot, dAndV, dOrV, dNotV, dIf, dNil, dCons, dTup, dLst, dLstF, dFrz, dUn, dNoPart, dPart, dSl, dCall, dNext, dSeq, dNever, dRet, dRetN, dExp, dIfS, dAsg, dPar2, dPar3, dRev, dMappend, dMcount, dgName, dgTup, dgCons, dgNil, rMul, rMod, rFdiv, rPow, rLt, rGt, rLe, rGe, rAny, rAll, rMax2, rMin2, rSub, dFn, dDict0, dDict1, dRngTup, dRngLst, dRg1, dRg2, dComp, dFor, diSeq, diRange1, diRange2, diZip, startD, wipeD, dYes, sx_v0, sx_v1, sx_v2, sx_v3, sx_v4, sx_v5, sx_v6, sx_v7, sx_v8, sx_v9, sx_addI, sx_addT, sx_addL, sx_int, sx_int0, sx_neg, sx_eqI, sx_neI, sx_ordI, sx_ordT, sx_inL, sx_inT, sx_isN, sx_isi_int, sx_isi_bool, sx_isi_str, sx_isi_tuple, sx_isi_list, sx_isi_dict, sx_lenL, sx_lenT, atQ_some, sx_ixL, sx_ixT, at0, at1, at2, ixN30, ixN31, ixN32, sx_setIx, sx_set0, sx_set1, sx_set2, sx_slL, sx_slT, sx_tupL, sx_tupT, sx_listL, sx_listT, sx_sortL, sx_sortT, sx_int2, sx_toI, sx_toB, sx_repr, sx_repL, istup_t, istup_l, isint_i, isbool_i, datas_n, datas_c, Option.map_some, mset_same, mset_mset, List.map_cons, List.map_nil, List.length_cons, List.length_nil, List.getElem?_cons_zero, List.getElem?_cons_succ, List.set_cons_zero, List.set_cons_succ, List.replicate, List.cons_append, List.nil_append, Bool.not_true, Bool.false_eq_true, if_false]
    match ys, hlen, q with
    | [a, b], hlen, q =>
      simp only [dEnds, dC, dV, dOp, dTest, dChain, dAnd, dOr, dNot, dAndV, dOrV, dNotV, dIf, dNil, dCons, dTup, dLst, dLstF, dFrz, dUn, dNoPart, dPart, dSl, dCall, dNext, dSeq, dNever, dRet, dRetN, dExp, dIfS, dAsg, dPar2, dPar3, dRev, dMappend, dMcount, dgName, dgTup, dgCons, dgNil, rMul, rMod, rFdiv, rPow, rLt, rGt, rLe, rGe, rAny, rAll, rMax2, rMin2, rSub, dFn, dDict0, dDict1, dRngTup, dRngLst, dRg1, dRg2, dComp, dFor, diSeq, diRange1, diRange2, diZip, startD, wipeD, dYes, sx_v0, sx_v1, sx_v2, sx_v3, sx_v4, sx_v5, sx_v6, sx_v7, sx_v8, sx_v9, sx_addI, sx_addT, sx_addL, sx_int, sx_int0, sx_neg, sx_eqI, sx_neI, sx_ordI, sx_ordT, sx_inL, sx_inT, sx_isN, sx_isi_int, sx_isi_bool, sx_isi_str, sx_isi_tuple, sx_isi_list, sx_isi_dict, sx_lenL, sx_lenT, atQ_some, sx_ixL, sx_ixT, at0, at1, at2, ixN30, ixN31, ixN32, sx_setIx, sx_set0, sx_set1, sx_set2, sx_slL, sx_slT, sx_tupL, sx_tupT, sx_listL, sx_listT, sx_sortL, sx_sortT, sx_int2, sx_toI, sx_toB, sx_repr, sx_repL, istup_t, istup_l, isint_i, isbool_i, datas_n, datas_c, Option.map_some, mset_same, mset_mset, List.map_cons, List.map_nil, List.length_cons, List.length_nil, List.getElem?_cons_zero, List.getElem?_cons_succ, List.set_cons_zero, List.set_cons_succ, List.replicate, List.cons_append, List.nil_append, List.length_cons, List.length_nil]
      refine ⟨a, 19, rfl, by decide, by decide, ?_⟩
      dsimp only
      by_cases h : isSet a 19 = true
      · simp only [h, Bool.not_true, Bool.false_eq_true, if_false]
        obtain ⟨xs, rfl⟩ : ∃ xs, a = .tuple xs := by
          rcases isTuple_cases a with h' | h'
          · exact h'
          · cases a <;> first | (cases h'; done) | (simp [isSet] at h)
        simp only [dEnds, dC, dV, dOp, dTest, dChain, dAnd, dOr, dNot, dAndV, dOrV, dNotV, dIf, dNil, dCons, dTup, dLst, dLstF, dFrz, dUn, dNoPart, dPart, dSl, dCall, dNext, dSeq, dNever, dRet, dRetN, dExp, dIfS, dAsg, dPar2, dPar3, dRev, dMappend, dMcount, dgName, dgTup, dgCons, dgNil, rMul, rMod, rFdiv, rPow, rLt, rGt, rLe, rGe, rAny, rAll, rMax2, rMin2, rSub, dFn, dDict0, dDict1, dRngTup, dRngLst, dRg1, dRg2, dComp, dFor, diSeq, diRange1, diRange2, diZip, startD, wipeD, dYes, sx_v0, sx_v1, sx_v2, sx_v3, sx_v4, sx_v5, sx_v6, sx_v7, sx_v8, sx_v9, sx_addI, sx_addT, sx_addL, sx_int, sx_int0, sx_neg, sx_eqI, sx_neI, sx_ordI, sx_ordT, sx_inL, sx_inT, sx_isN, sx_isi_int, sx_isi_bool, sx_isi_str, sx_isi_tuple, sx_isi_list, sx_isi_dict, sx_lenL, sx_lenT, atQ_some, sx_ixL, sx_ixT, at0, at1, at2, ixN30, ixN31, ixN32, sx_setIx, sx_set0, sx_set1, sx_set2, sx_slL, sx_slT, sx_tupL, sx_tupT, sx_listL, sx_listT, sx_sortL, sx_sortT, sx_int2, sx_toI, sx_toB, sx_repr, sx_repL, istup_t, istup_l, isint_i, isbool_i, datas_n, datas_c, Option.map_some, mset_same, mset_mset, List.map_cons, List.map_nil, List.length_cons, List.length_nil, List.getElem?_cons_zero, List.getElem?_cons_succ, List.set_cons_zero, List.set_cons_succ, List.replicate, List.cons_append, List.nil_append]
        by_cases hl : (15 : Int) < (xs.length : Int)
        · simp only [hl, decide_true, if_true]
          refine ⟨m, .refl m, ?_⟩
          have : areSpeakers (.tuple xs) = false := by
            have : ¬ ((xs.length : Int) ≤ 15) := by omega
            simp [areSpeakers, this]
          rw [isDebate_bad this] at q
          exact q
        · simp only [hl, decide_false, if_false, Bool.false_eq_true]
          have hsp : areSpeakers (.tuple xs) = true := by
            have : ((xs.length : Int) ≤ 15) := by omega
            simp [areSpeakers, this, h]
          have hp := isSet_plain h
          rcases isTuple_cases b with ⟨ys, rfl⟩ | hb
          · simp only [dEnds, dC, dV, dOp, dTest, dChain, dAnd, dOr, dNot, dAndV, dOrV, dNotV, dIf, dNil, dCons, dTup, dLst, dLstF, dFrz, dUn, dNoPart, dPart, dSl, dCall, dNext, dSeq, dNever, dRet, dRetN, dExp, dIfS, dAsg, dPar2, dPar3, dRev, dMappend, dMcount, dgName, dgTup, dgCons, dgNil, rMul, rMod, rFdiv, rPow, rLt, rGt, rLe, rGe, rAny, rAll, rMax2, rMin2, rSub, dFn, dDict0, dDict1, dRngTup, dRngLst, dRg1, dRg2, dComp, dFor, diSeq, diRange1, diRange2, diZip, startD, wipeD, dYes, sx_v0, sx_v1, sx_v2, sx_v3, sx_v4, sx_v5, sx_v6, sx_v7, sx_v8, sx_v9, sx_addI, sx_addT, sx_addL, sx_int, sx_int0, sx_neg, sx_eqI, sx_neI, sx_ordI, sx_ordT, sx_inL, sx_inT, sx_isN, sx_isi_int, sx_isi_bool, sx_isi_str, sx_isi_tuple, sx_isi_list, sx_isi_dict, sx_lenL, sx_lenT, atQ_some, sx_ixL, sx_ixT, at0, at1, at2, ixN30, ixN31, ixN32, sx_setIx, sx_set0, sx_set1, sx_set2, sx_slL, sx_slT, sx_tupL, sx_tupT, sx_listL, sx_listT, sx_sortL, sx_sortT, sx_int2, sx_toI, sx_toB, sx_repr, sx_repL, istup_t, istup_l, isint_i, isbool_i, datas_n, datas_c, Option.map_some, mset_same, mset_mset, List.map_cons, List.map_nil, List.length_cons, List.length_nil, List.getElem?_cons_zero, List.getElem?_cons_succ, List.set_cons_zero, List.set_cons_succ, List.replicate, List.cons_append, List.nil_append, Bool.not_true, Bool.false_eq_true, if_false]
            have hlen := hlen _ _ rfl
            have bad : ∀ y ∈ ys, isAttackOf xs y = false → isDebate (.tuple [.tuple xs, .tuple ys]) = false := fun y hy hb => by
              have : ys.all (isAttackOf xs) = false := List.all_eq_false.mpr ⟨y, hy, by simp [hb]⟩
              simp [isDebate, areAttacksOf, this]
            refine forW_inv (fun ws σ m' => m' = m ∧ (∃ o1 o2, σ = [some (.d (.tuple [.tuple xs, .tuple ys])), o1, o2]) ∧ ∃ rest, ws = rest.map W.d ∧ (∀ y ∈ ys, y ∈ rest ∨ isAttackOf xs y = true) ∧ ∀ y ∈ rest, y ∈ ys) ?_ ?_ _ _ _ ⟨rfl, ⟨_, _, rfl⟩, ys, rfl, fun y hy => .inl hy, fun y hy => hy⟩
            · rintro w ws σ m' N ⟨rfl, ⟨o1, o2, rfl⟩, rest, hw, h1, h2⟩ hN
              cases rest with
              | nil => cases hw
              | cons y rest =>
                cases hw
                have hy := h2 y (by simp)
                simp only [dEnds, dC, dV, dOp, dTest, dChain, dAnd, dOr, dNot, dAndV, dOrV, dNotV, dIf, dNil, dCons, dTup, dLst, dLstF, dFrz, dUn, dNoPart, dPart, dSl, dCall, dNext, dSeq, dNever, dRet, dRetN, dExp, dIfS, dAsg, dPar2, dPar3, dRev, dMappend, dMcount, dgName, dgTup, dgCons, dgNil, rMul, rMod, rFdiv, rPow, rLt, rGt, rLe, rGe, rAny, rAll, rMax2, rMin2, rSub, dFn, dDict0, dDict1, dRngTup, dRngLst, dRg1, dRg2, dComp, dFor, diSeq, diRange1, diRange2, diZip, startD, wipeD, dYes, sx_v0, sx_v1, sx_v2, sx_v3, sx_v4, sx_v5, sx_v6, sx_v7, sx_v8, sx_v9, sx_addI, sx_addT, sx_addL, sx_int, sx_int0, sx_neg, sx_eqI, sx_neI, sx_ordI, sx_ordT, sx_inL, sx_inT, sx_isN, sx_isi_int, sx_isi_bool, sx_isi_str, sx_isi_tuple, sx_isi_list, sx_isi_dict, sx_lenL, sx_lenT, atQ_some, sx_ixL, sx_ixT, at0, at1, at2, ixN30, ixN31, ixN32, sx_setIx, sx_set0, sx_set1, sx_set2, sx_slL, sx_slT, sx_tupL, sx_tupT, sx_listL, sx_listT, sx_sortL, sx_sortT, sx_int2, sx_toI, sx_toB, sx_repr, sx_repL, istup_t, istup_l, isint_i, isbool_i, datas_n, datas_c, Option.map_some, mset_same, mset_mset, List.map_cons, List.map_nil, List.length_cons, List.length_nil, List.getElem?_cons_zero, List.getElem?_cons_succ, List.set_cons_zero, List.set_cons_succ, List.replicate, List.cons_append, List.nil_append]
                rcases isTuple_cases y with ⟨zs, rfl⟩ | hb
                · simp only [dEnds, dC, dV, dOp, dTest, dChain, dAnd, dOr, dNot, dAndV, dOrV, dNotV, dIf, dNil, dCons, dTup, dLst, dLstF, dFrz, dUn, dNoPart, dPart, dSl, dCall, dNext, dSeq, dNever, dRet, dRetN, dExp, dIfS, dAsg, dPar2, dPar3, dRev, dMappend, dMcount, dgName, dgTup, dgCons, dgNil, rMul, rMod, rFdiv, rPow, rLt, rGt, rLe, rGe, rAny, rAll, rMax2, rMin2, rSub, dFn, dDict0, dDict1, dRngTup, dRngLst, dRg1, dRg2, dComp, dFor, diSeq, diRange1, diRange2, diZip, startD, wipeD, dYes, sx_v0, sx_v1, sx_v2, sx_v3, sx_v4, sx_v5, sx_v6, sx_v7, sx_v8, sx_v9, sx_addI, sx_addT, sx_addL, sx_int, sx_int0, sx_neg, sx_eqI, sx_neI, sx_ordI, sx_ordT, sx_inL, sx_inT, sx_isN, sx_isi_int, sx_isi_bool, sx_isi_str, sx_isi_tuple, sx_isi_list, sx_isi_dict, sx_lenL, sx_lenT, atQ_some, sx_ixL, sx_ixT, at0, at1, at2, ixN30, ixN31, ixN32, sx_setIx, sx_set0, sx_set1, sx_set2, sx_slL, sx_slT, sx_tupL, sx_tupT, sx_listL, sx_listT, sx_sortL, sx_sortT, sx_int2, sx_toI, sx_toB, sx_repr, sx_repL, istup_t, istup_l, isint_i, isbool_i, datas_n, datas_c, Option.map_some, mset_same, mset_mset, List.map_cons, List.map_nil, List.length_cons, List.length_nil, List.getElem?_cons_zero, List.getElem?_cons_succ, List.set_cons_zero, List.set_cons_succ, List.replicate, List.cons_append, List.nil_append, Bool.not_true, Bool.false_eq_true, if_false]
                  match zs with
                  | [] => exact ⟨m', .refl m', by rw [bad _ hy rfl] at q; exact q⟩
                  | [a] => exact ⟨m', .refl m', by rw [bad _ hy rfl] at q; exact q⟩
                  | a :: b :: c :: r =>
                    simp only [len_far, Bool.not_false, if_true]
                    exact ⟨m', .refl m', by rw [bad _ hy rfl] at q; exact q⟩
                  | [a, b] =>
                    simp only [dEnds, dC, dV, dOp, dTest, dChain, dAnd, dOr, dNot, dAndV, dOrV, dNotV, dIf, dNil, dCons, dTup, dLst, dLstF, dFrz, dUn, dNoPart, dPart, dSl, dCall, dNext, dSeq, dNever, dRet, dRetN, dExp, dIfS, dAsg, dPar2, dPar3, dRev, dMappend, dMcount, dgName, dgTup, dgCons, dgNil, rMul, rMod, rFdiv, rPow, rLt, rGt, rLe, rGe, rAny, rAll, rMax2, rMin2, rSub, dFn, dDict0, dDict1, dRngTup, dRngLst, dRg1, dRg2, dComp, dFor, diSeq, diRange1, diRange2, diZip, startD, wipeD, dYes, sx_v0, sx_v1, sx_v2, sx_v3, sx_v4, sx_v5, sx_v6, sx_v7, sx_v8, sx_v9, sx_addI, sx_addT, sx_addL, sx_int, sx_int0, sx_neg, sx_eqI, sx_neI, sx_ordI, sx_ordT, sx_inL, sx_inT, sx_isN, sx_isi_int, sx_isi_bool, sx_isi_str, sx_isi_tuple, sx_isi_list, sx_isi_dict, sx_lenL, sx_lenT, atQ_some, sx_ixL, sx_ixT, at0, at1, at2, ixN30, ixN31, ixN32, sx_setIx, sx_set0, sx_set1, sx_set2, sx_slL, sx_slT, sx_tupL, sx_tupT, sx_listL, sx_listT, sx_sortL, sx_sortT, sx_int2, sx_toI, sx_toB, sx_repr, sx_repL, istup_t, istup_l, isint_i, isbool_i, datas_n, datas_c, Option.map_some, mset_same, mset_mset, List.map_cons, List.map_nil, List.length_cons, List.length_nil, List.getElem?_cons_zero, List.getElem?_cons_succ, List.set_cons_zero, List.set_cons_succ, List.replicate, List.cons_append, List.nil_append, List.length_cons, List.length_nil]
                    rw [if_neg (show ¬ (!decide (((0 + 1 + 1 : Nat) : Int) = 2)) = true by decide)]
                    refine compW_fd (xs := [a, b]) (fun x => if (!isSpeakerOf xs x) = true then some (.int 1) else none) (fun x hx k1 k0 h1 h0 => ?_) ?_
                    · simp only [Turn1, dEnds, dC, dV, dOp, dTest, dChain, dAnd, dOr, dNot, dAndV, dOrV, dNotV, dIf, dNil, dCons, dTup, dLst, dLstF, dFrz, dUn, dNoPart, dPart, dSl, dCall, dNext, dSeq, dNever, dRet, dRetN, dExp, dIfS, dAsg, dPar2, dPar3, dRev, dMappend, dMcount, dgName, dgTup, dgCons, dgNil, rMul, rMod, rFdiv, rPow, rLt, rGt, rLe, rGe, rAny, rAll, rMax2, rMin2, rSub, dFn, dDict0, dDict1, dRngTup, dRngLst, dRg1, dRg2, dComp, dFor, diSeq, diRange1, diRange2, diZip, startD, wipeD, dYes, sx_v0, sx_v1, sx_v2, sx_v3, sx_v4, sx_v5, sx_v6, sx_v7, sx_v8, sx_v9, sx_addI, sx_addT, sx_addL, sx_int, sx_int0, sx_neg, sx_eqI, sx_neI, sx_ordI, sx_ordT, sx_inL, sx_inT, sx_isN, sx_isi_int, sx_isi_bool, sx_isi_str, sx_isi_tuple, sx_isi_list, sx_isi_dict, sx_lenL, sx_lenT, atQ_some, sx_ixL, sx_ixT, at0, at1, at2, ixN30, ixN31, ixN32, sx_setIx, sx_set0, sx_set1, sx_set2, sx_slL, sx_slT, sx_tupL, sx_tupT, sx_listL, sx_listT, sx_sortL, sx_sortT, sx_int2, sx_toI, sx_toB, sx_repr, sx_repL, istup_t, istup_l, isint_i, isbool_i, datas_n, datas_c, Option.map_some, mset_same, mset_mset, List.map_cons, List.map_nil, List.length_cons, List.length_nil, List.getElem?_cons_zero, List.getElem?_cons_succ, List.set_cons_zero, List.set_cons_succ, List.replicate, List.cons_append, List.nil_append]
                      refine ⟨x, 19, rfl, ?_⟩
                      dsimp only
                      by_cases hn : isNum x 0 19 = true
                      · obtain ⟨i, rfl, _⟩ := isNum_int hn
                        simp only [hn, Bool.not_true, Bool.false_eq_true, if_false]
                        refine ⟨by simp [inOk, hp, PyData.plain, PyData.depth], ?_⟩
                        by_cases hm : (xs.any fun z => PyData.eqv z (.int i)) = true
                        · simp only [hm, Bool.not_true, Bool.false_eq_true, if_false]
                          exact h0 (by simp [isSpeakerOf, hn, hm])
                        · have hm' : (xs.any fun z => PyData.eqv z (.int i)) = false := by simpa using hm
                          simp only [hm', Bool.not_false, if_true]
                          exact h1 _ (by simp [isSpeakerOf, hn, hm'])
                      · have hn' : isNum x 0 19 = false := by simpa using hn
                        simp only [hn', Bool.not_false, if_true]
                        exact h1 _ (by simp [isSpeakerOf, hn'])
                    · rw [filterMap_if (fun x => !isSpeakerOf xs x), List.map_const', sx_ne, (ones_none _).2]
                      refine ⟨by decide, (ones_none _).1, ?_⟩
                      dsimp only
                      by_cases hg : isAttackOf xs (.tuple [a, b]) = true
                      · have hg2 : isSpeakerOf xs a = true ∧ isSpeakerOf xs b = true := by simpa [isAttackOf] using hg
                        simp only [List.filter_cons, List.filter_nil, hg2.1, hg2.2, Bool.not_true, Bool.false_eq_true, if_false, List.length_nil, decide_true]
                        refine hN _ _ ⟨rfl, ⟨_, _, rfl⟩, rest, rfl, fun y hy => ?_, fun y hy => h2 y (by simp [hy])⟩
                        rcases h1 y hy with h3 | h3
                        · rcases List.mem_cons.mp h3 with rfl | h3
                          · exact .inr hg
                          · exact .inl h3
                        · exact .inr h3
                      · have hg' : isAttackOf xs (.tuple [a, b]) = false := by simpa using hg
                        have : (List.filter (fun x => !isSpeakerOf xs x) [a, b]).length ≠ 0 := by
                          simp only [isAttackOf, Bool.and_eq_false_iff] at hg'
                          rcases hg' with e | e
                          · simp [List.filter_cons, e]
                          · simp only [List.filter_cons, List.filter_nil, e, Bool.not_false, if_true]
                            split <;> simp
                        simp only [this, decide_false, Bool.not_false, if_true]
                        exact ⟨m', .refl m', by rw [bad _ hy hg'] at q; exact q⟩
                · simp only [hb, Bool.not_false, if_true]
                  refine ⟨m', .refl m', ?_⟩
                  have : isAttackOf xs y = false := by cases y <;> first | (cases hb; done) | rfl
                  rw [bad _ hy this] at q
                  exact q
            · rintro σ m' ⟨rfl, ⟨o1, o2, rfl⟩, rest, hw, h1, h2⟩
              have hr : rest = [] := by simpa using hw.symm
              subst hr
              have hall : ys.all (isAttackOf xs) = true := List.all_eq_true.mpr fun y hy => (h1 y hy).resolve_left (by simp)
              obtain ⟨ps, rfl⟩ := attacks_of hall
              simp only [dEnds, dC, dV, dOp, dTest, dChain, dAnd, dOr, dNot, dAndV, dOrV, dNotV, dIf, dNil, dCons, dTup, dLst, dLstF, dFrz, dUn, dNoPart, dPart, dSl, dCall, dNext, dSeq, dNever, dRet, dRetN, dExp, dIfS, dAsg, dPar2, dPar3, dRev, dMappend, dMcount, dgName, dgTup, dgCons, dgNil, rMul, rMod, rFdiv, rPow, rLt, rGt, rLe, rGe, rAny, rAll, rMax2, rMin2, rSub, dFn, dDict0, dDict1, dRngTup, dRngLst, dRg1, dRg2, dComp, dFor, diSeq, diRange1, diRange2, diZip, startD, wipeD, dYes, sx_v0, sx_v1, sx_v2, sx_v3, sx_v4, sx_v5, sx_v6, sx_v7, sx_v8, sx_v9, sx_addI, sx_addT, sx_addL, sx_int, sx_int0, sx_neg, sx_eqI, sx_neI, sx_ordI, sx_ordT, sx_inL, sx_inT, sx_isN, sx_isi_int, sx_isi_bool, sx_isi_str, sx_isi_tuple, sx_isi_list, sx_isi_dict, sx_lenL, sx_lenT, atQ_some, sx_ixL, sx_ixT, at0, at1, at2, ixN30, ixN31, ixN32, sx_setIx, sx_set0, sx_set1, sx_set2, sx_slL, sx_slT, sx_tupL, sx_tupT, sx_listL, sx_listT, sx_sortL, sx_sortT, sx_int2, sx_toI, sx_toB, sx_repr, sx_repL, istup_t, istup_l, isint_i, isbool_i, datas_n, datas_c, Option.map_some, mset_same, mset_mset, List.map_cons, List.map_nil, List.length_cons, List.length_nil, List.getElem?_cons_zero, List.getElem?_cons_succ, List.set_cons_zero, List.set_cons_succ, List.replicate, List.cons_append, List.nil_append]
              have hq : isDebate (.tuple [.tuple xs, .tuple (ps.map pr)]) = decide (ps.Pairwise fun a b => ltP a b = true) := by
                rw [Bool.eq_iff_iff, decide_eq_true_eq, ← rises_P]
                show (areSpeakers (.tuple xs) && ((ps.map pr).all (isAttackOf xs) && risesD (ps.map pr))) = true ↔ _
                rw [hsp, hall, Bool.true_and, Bool.true_and]
              rw [sortD_P, sx_eq, eqv_PP]
              refine ⟨sortOk_P ps, pairOk_PP _ _, ?_⟩
              dsimp only
              by_cases e : ps = sortP ps
              · rw [decide_eq_true e, if_pos rfl]
                refine compW_md (fun x => .int (((ps.map pr).countP fun z => PyData.eqv z x : Nat) : Int)) (fun x hx k1 k0 h1 => ?_) ?_
                · obtain ⟨p, hp, rfl⟩ := List.mem_map.mp hx
                  simp only [Turn1, dEnds, dC, dV, dOp, dTest, dChain, dAnd, dOr, dNot, dAndV, dOrV, dNotV, dIf, dNil, dCons, dTup, dLst, dLstF, dFrz, dUn, dNoPart, dPart, dSl, dCall, dNext, dSeq, dNever, dRet, dRetN, dExp, dIfS, dAsg, dPar2, dPar3, dRev, dMappend, dMcount, dgName, dgTup, dgCons, dgNil, rMul, rMod, rFdiv, rPow, rLt, rGt, rLe, rGe, rAny, rAll, rMax2, rMin2, rSub, dFn, dDict0, dDict1, dRngTup, dRngLst, dRg1, dRg2, dComp, dFor, diSeq, diRange1, diRange2, diZip, startD, wipeD, dYes, sx_v0, sx_v1, sx_v2, sx_v3, sx_v4, sx_v5, sx_v6, sx_v7, sx_v8, sx_v9, sx_addI, sx_addT, sx_addL, sx_int, sx_int0, sx_neg, sx_eqI, sx_neI, sx_ordI, sx_ordT, sx_inL, sx_inT, sx_isN, sx_isi_int, sx_isi_bool, sx_isi_str, sx_isi_tuple, sx_isi_list, sx_isi_dict, sx_lenL, sx_lenT, atQ_some, sx_ixL, sx_ixT, at0, at1, at2, ixN30, ixN31, ixN32, sx_setIx, sx_set0, sx_set1, sx_set2, sx_slL, sx_slT, sx_tupL, sx_tupT, sx_listL, sx_listT, sx_sortL, sx_sortT, sx_int2, sx_toI, sx_toB, sx_repr, sx_repL, istup_t, istup_l, isint_i, isbool_i, datas_n, datas_c, Option.map_some, mset_same, mset_mset, List.map_cons, List.map_nil, List.length_cons, List.length_nil, List.getElem?_cons_zero, List.getElem?_cons_succ, List.set_cons_zero, List.set_cons_succ, List.replicate, List.cons_append, List.nil_append, if_true]
                  exact ⟨inOk_P p ps, h1⟩
                · have hf : (List.replicate (((ps.map pr).length : Nat) : Int).toNat [PyData.int 1]).flatten = (List.replicate ps.length (1 : Int)).map PyData.int := by
                    rw [List.length_map, Int.toNat_natCast, List.flatten_replicate_singleton, List.map_replicate]
                  have hg : ((ps.map pr).map fun x => PyData.int (((ps.map pr).countP fun z => PyData.eqv z x : Nat) : Int)) = (ps.map fun p => ((ps.countP fun y => decide (y = p) : Nat) : Int)).map PyData.int := by
                    rw [List.map_map, List.map_map]
                    refine List.map_congr_left fun p _ => ?_
                    show PyData.int _ = PyData.int _
                    rw [countP_P]
                  rw [hf, hg, sx_eq, eqv_II]
                  have hz : (ps.map pr).length ≤ 16777216 := hlen
                  refine ⟨by omega, by omega, by omega, by simpa using hz, pairOk_II _ _, m', .refl m', ?_⟩
                  rw [hq] at q
                  have : decide ((ps.map fun p => ((ps.countP fun y => decide (y = p) : Nat) : Int)) = List.replicate ps.length 1) = decide (ps.Pairwise fun a b => ltP a b = true) := by
                    rw [Bool.eq_iff_iff, decide_eq_true_eq, decide_eq_true_eq, ← once_P, List.eq_replicate_iff]
                    constructor
                    · rintro ⟨_, h⟩
                      refine ⟨e, fun p hp => ?_⟩
                      have := h _ (List.mem_map.mpr ⟨p, hp, rfl⟩)
                      omega
                    · rintro ⟨_, h⟩
                      refine ⟨by simp, fun z hz => ?_⟩
                      obtain ⟨p, hp, rfl⟩ := List.mem_map.mp hz
                      rw [h p hp]
                      rfl
                  rw [this]
                  exact q
              · rw [decide_eq_false e, if_neg Bool.false_ne_true]
                refine ⟨m', .refl m', ?_⟩
                have : decide (ps.Pairwise fun a b => ltP a b = true) = false := decide_eq_false fun h => e ((once_P ps).mpr h).1
                rw [hq, this] at q
                exact q
          · simp only [hb, Bool.not_false, if_true]
            refine ⟨m, .refl m, ?_⟩
            have : isDebate (.tuple [.tuple xs, b]) = false := by
              cases b <;> first | (cases hb; done) | simp [isDebate, areAttacksOf]
            rw [this] at q
            exact q
      · have h' : isSet a 19 = false := by simpa using h
        simp only [h', Bool.not_false, if_true]
        refine ⟨m, .refl m, ?_⟩
        have : areSpeakers a = false := by simp [areSpeakers, h']
        rw [isDebate_bad this] at q
        exact q
    | [], _, q => exact ⟨m, .refl m, q⟩
    | [a], _, q =>
      rw [isDebate_one] at q
      exact ⟨m, .refl m, q⟩
    | a :: b :: c :: r, _, q =>
      simp only [len_far, Bool.not_false, if_true]
      rw [isDebate_far] at q
      exact ⟨m, .refl m, q⟩
  · simp only [h, Bool.not_false, if_true]
    refine ⟨m, .refl m, ?_⟩
    cases d <;> first | exact q | cases h
end DL
end
section
set_option maxHeartbeats 1000000
namespace DL
open PySem PySem.Spec L2
open PyProof.Rows hiding St

/-! ### small data: their text is short -/
structure Sz (d : PyData) (w k : Nat) : Prop where
  lay : d.canLay0 = true
  isho : d.intsShort 13 = true
  show' : d.showable = true
  dep : d.depth ≤ k
  wt : d.weight ≤ w
structure SzA (ds : List PyData) (w k : Nat) : Prop where
  lay : PyData.canLayAll0 ds = true
  isho : PyData.intsShortAll 13 ds = true
  show' : PyData.showableAll ds = true
  dep : PyData.depthAll ds ≤ k
  wt : PyData.weightAll ds ≤ w
theorem Sz.non : Sz .none 0 0 := ⟨rfl, rfl, rfl, Nat.le_refl _, Nat.le_refl _⟩
theorem Sz.bool (b : Bool) : Sz (.bool b) 0 0 := ⟨rfl, rfl, rfl, Nat.le_refl _, Nat.le_refl _⟩
theorem Sz.int {i : Int} (h : i.natAbs < 10 ^ 12) : Sz (.int i) 40 0 := by
  have h2 : i.natAbs.log2 < 40 := by
    by_cases h0 : i.natAbs = 0
    · rw [h0]; decide
    · exact (Nat.log2_lt h0).mpr (Nat.lt_trans h (by decide))
  refine ⟨rfl, ?_, ?_, Nat.le_refl _, ?_⟩
  · rw [PyData.intsShort, decide_eq_true_eq]
    have := int_text_length_le10 (a := i) (k := 12) (by decide) h
    have e : (PyData.int i).shown = Str.ofString (toString i) := by simp only [PyData.shown]
    rw [e, PySem.ofString_length]
    exact this
  · simp only [PyData.showable, decide_eq_true_eq]
    omega
  · simp only [PyData.weight]
    split <;> omega
theorem SzA.nil : SzA [] 0 0 := ⟨rfl, rfl, rfl, Nat.le_refl _, Nat.le_refl _⟩
theorem SzA.cons {d : PyData} {ds : List PyData} {w k w' k' : Nat} (h : Sz d w k) (t : SzA ds w' k') : SzA (d :: ds) (w + 1 + w') (max k k') := by
  refine ⟨?_, ?_, ?_, ?_, ?_⟩
  · rw [PyData.canLayAll0, h.lay, t.lay]; rfl
  · rw [PyData.intsShortAll, h.isho, t.isho]; rfl
  · rw [PyData.showableAll, h.show', t.show']; rfl
  · have := h.dep; have := t.dep
    rw [PyData.depthAll]
    omega
  · have := h.wt; have := t.wt
    rw [PyData.weightAll]
    omega
theorem SzA.le {ds : List PyData} {w k w' k' : Nat} (h : SzA ds w k) (hw : w ≤ w') (hk : k ≤ k') : SzA ds w' k' := ⟨h.lay, h.isho, h.show', Nat.le_trans h.dep hk, Nat.le_trans h.wt hw⟩
theorem Sz.le {ds : PyData} {w k w' k' : Nat} (h : Sz ds w k) (hw : w ≤ w') (hk : k ≤ k') : Sz ds w' k' := ⟨h.lay, h.isho, h.show', Nat.le_trans h.dep hk, Nat.le_trans h.wt hw⟩
theorem SzA.append {ds es : List PyData} {w k w' k' : Nat} (h : SzA ds w k) (t : SzA es w' k') : SzA (ds ++ es) (w + w') (max k k') := by
  induction ds generalizing w with
  | nil => exact t.le (by omega) (by omega)
  | cons d ds ih =>
    have h1 := h.lay; have h2 := h.isho; have h3 := h.show'; have h4 := h.dep; have h5 := h.wt
    rw [PyData.canLayAll0, Bool.and_eq_true] at h1
    rw [PyData.intsShortAll, Bool.and_eq_true] at h2
    rw [PyData.showableAll, Bool.and_eq_true] at h3
    rw [PyData.depthAll] at h4
    rw [PyData.weightAll] at h5
    have a : Sz d d.weight k := ⟨h1.1, h2.1, h3.1, by omega, Nat.le_refl _⟩
    have b : SzA ds (w - (d.weight + 1)) k := ⟨h1.2, h2.2, h3.2, by omega, by omega⟩
    exact (SzA.cons a (ih b)).le (by omega) (by omega)
theorem SzA.all {ds : List PyData} {w k n : Nat} (h : ∀ d ∈ ds, Sz d w k) (hn : ds.length ≤ n) : SzA ds (n * (w + 1)) k := by
  have : SzA ds (ds.length * (w + 1)) k := by
    clear hn
    induction ds with
    | nil => exact SzA.nil.le (by omega) (by omega)
    | cons d ds ih =>
      refine (SzA.cons (h d (by simp)) (ih fun e he => h e (by simp [he]))).le ?_ (by omega)
      rw [List.length_cons, Nat.succ_mul]
      omega
  exact this.le (Nat.mul_le_mul_right _ hn) (Nat.le_refl _)
theorem Sz.tup {ds : List PyData} {w k : Nat} (h : SzA ds w k) : Sz (.tuple ds) w (k + 1) := by
  refine ⟨?_, ?_, ?_, ?_, ?_⟩
  · rw [PyData.canLay0]; exact h.lay
  · rw [PyData.intsShort]; exact h.isho
  · rw [PyData.showable]; exact h.show'
  · rw [PyData.depth]; exact Nat.succ_le_succ h.dep
  · rw [PyData.weight]; exact h.wt
theorem Sz.lst {ds : List PyData} {w k : Nat} (h : SzA ds w k) : Sz (.list ds) w (k + 1) := by
  refine ⟨?_, ?_, ?_, ?_, ?_⟩
  · rw [PyData.canLay0]; exact h.lay
  · rw [PyData.intsShort]; exact h.isho
  · rw [PyData.showable]; exact h.show'
  · rw [PyData.depth]; exact Nat.succ_le_succ h.dep
  · rw [PyData.weight]; exact h.wt
theorem Sz.repr {d : PyData} {w k : Nat} (h : Sz d w k) (hw : w ≤ 1048576 := by decide) (hk : k ≤ 64 := by decide) : ReprOk d := by
  have hd := PyData.hasDict_of_canLay d h.lay
  refine ⟨h.show', Nat.le_trans h.dep hk, (fun q => by rw [hd] at q; cases q), ?_⟩
  have hl : PyData.layable0 d = true := by
    unfold PyData.layable0
    rw [h.lay]
    have h1 := Nat.le_trans h.dep hk
    have h2 : d.weight ≤ 2 ^ 20 := Nat.le_trans h.wt hw
    rw [decide_eq_true h1, decide_eq_true h2]
    rfl
  have := shown_le13 hl h.isho
  omega
theorem weight_len : ∀ ds : List PyData, ds.length ≤ PyData.weightAll ds
  | [] => Nat.zero_le _
  | d :: ds => by
    have := weight_len ds
    rw [PyData.weightAll, List.length_cons]
    omega
/-- ints of a tuple, all small -/
theorem SzA.nums {ns : List Int} {n : Nat} (h : ∀ z ∈ ns, z.natAbs < 10 ^ 12) (hn : ns.length ≤ n) : SzA (ns.map PyData.int) (n * 41) 0 :=
  SzA.all (fun d hd => by obtain ⟨z, hz, rfl⟩ := List.mem_map.mp hd; exact Sz.int (h z hz)) (by simpa using hn)
theorem Sz.pr {p : Int × Int} (h1 : p.1.natAbs < 10 ^ 12) (h2 : p.2.natAbs < 10 ^ 12) : Sz (pr p) 82 1 := Sz.tup (SzA.cons (.int h1) (SzA.cons (.int h2) .nil))
theorem SzA.prs {ps : List (Int × Int)} {n : Nat} (h : ∀ z ∈ ps, z.1.natAbs < 10 ^ 12 ∧ z.2.natAbs < 10 ^ 12) (hn : ps.length ≤ n) : SzA (ps.map DL.pr) (n * 83) 1 :=
  SzA.all (fun d hd => by obtain ⟨z, hz, rfl⟩ := List.mem_map.mp hd; exact Sz.pr (h z hz).1 (h z hz).2) (by simpa using hn)
theorem Sz.str {x : Str} (h : PyData.strOk x = true) {w : Nat} (hw : x.cps.size ≤ w) : Sz (.str x) w 0 := ⟨by rw [PyData.canLay0]; exact h, rfl, rfl, Nat.le_refl _, by rw [PyData.weight]; exact hw⟩

/-! ### lists of numbers without one twice -/
theorem sub_len {α : Type} [DecidableEq α] : ∀ {xs ys : List α}, xs.Nodup → (∀ x ∈ xs, x ∈ ys) → xs.length ≤ ys.length
  | [], _, _, _ => Nat.zero_le _
  | x :: xs, ys, hn, h => by
    rw [List.nodup_cons] at hn
    have hx := h x (by simp)
    have h2 : ∀ z ∈ xs, z ∈ ys.erase x := fun z hz => by
      have hne : z ≠ x := fun e => hn.1 (e ▸ hz)
      exact (List.mem_erase_of_ne hne).mpr (h z (by simp [hz]))
    have := sub_len hn.2 h2
    rw [List.length_erase_of_mem hx] at this
    have : 0 < ys.length := List.length_pos_of_mem hx
    rw [List.length_cons]
    omega
end DL
end
section
set_option maxHeartbeats 1000000
namespace DL
open PySem PySem.Spec L2
open PyProof.Rows hiding St

/-- what stood but the pen stands still -/
def Kp (m : MM) (a : Addr) (m' : MM) : Prop := ∀ c x, c ≠ a → m c = some x → m' c = some x
theorem Kp.refl (m : MM) (a : Addr) : Kp m a m := fun _ _ _ h => h
theorem Kp.pen {m m' : MM} {a : Addr} (h : Kp m a m') {o : MO} : Kp m a (mset m' a o) := fun c x hc e => by rw [mset_ne hc]; exact h c x hc e
theorem Kp.new {m m' : MM} {a b : Addr} (h : Kp m a m') {o : MO} (hb : m b = none) : Kp m a (mset m' b o) := fun c x hc e => by
  have : c ≠ b := fun z => by subst z; rw [hb] at e; cases e
  rw [mset_ne this]; exact h c x hc e
theorem Kp.sub {m m' : MM} {a : Addr} (h : Kp m a m') {o : MO} (e : m' a = some o) : Sub (mset m a o) m' := fun c x hc => by
  by_cases z : c = a
  · subst z; rw [mset_same] at hc; cases hc; exact e
  · rw [mset_ne z] at hc; exact h c x z hc
theorem Kp.frz {m m' : MM} {a b : Addr} (h : Kp m a m') (hb : m b = none) : Kp m a (mdel m' b) := fun c x hc e => by
  have : c ≠ b := fun z => by subst z; rw [hb] at e; cases e
  unfold mdel
  rw [if_neg this]
  exact h c x hc e

/-! ### speakers drawn -/
def IsSp (ns : List Int) : Prop := ns.Pairwise (· < ·) ∧ ∀ z ∈ ns, 0 ≤ z ∧ z < 20
def sp_law_speakers : DSp := fun ws m Q _ => ∃ a many, ws = [.v (.ref a), .d (.int many)] ∧ many ≤ 20 ∧ PenAt m a ∧ ∀ ns o, IsSp ns → (ns.length : Int) = max 0 many → PenO o → Q (.d (tI ns)) (mset m a o)
theorem tk_law_speakers : Takes 2 sp_law_speakers := by rintro ws m Q E ⟨d, lo, rfl, _⟩; rfl
theorem datas_ints : ∀ ns : List Int, datas (ns.map fun z => W.d (.int z)) = some (ns.map PyData.int)
  | [] => rfl
  | z :: ns => by
    show (datas (ns.map fun z => W.d (.int z))).map (PyData.int z :: ·) = _
    rw [datas_ints ns]
    rfl
theorem free_of {ns : List Int} (hn : ns.Nodup) (hl : ns.length < 20) : ∃ z : Int, 0 ≤ z ∧ z < 20 ∧ z ∉ ns := by
  refine Classical.byContradiction fun h => ?_
  have h1 : ∀ z ∈ upTo 20, z ∈ ns := fun z hz => Decidable.byContradiction fun hm => h ⟨z, (upTo_mem.mp hz).1, by have := (upTo_mem.mp hz).2; omega, hm⟩
  have h2 : (upTo 20).Nodup := (upTo_lt 20).imp fun h => by omega
  have := sub_len h2 h1
  have e : (upTo 20).length = 20 := by simp [upTo]
  omega
theorem sortI_perm (ns : List Int) : (sortI ns).Perm ns := List.mergeSort_perm _ _
theorem sortI_sp {ns : List Int} (hn : ns.Nodup) (h : ∀ z ∈ ns, 0 ≤ z ∧ z < 20) : IsSp (sortI ns) := by
  have hp := sortI_perm ns
  refine ⟨?_, fun z hz => h z (hp.mem_iff.mp hz)⟩
  have hs : (sortI ns).Pairwise fun a b => decide (a ≤ b) = true := List.pairwise_mergeSort (fun a b c h1 h2 => decide_eq_true (by have := of_decide_eq_true h1; have := of_decide_eq_true h2; omega)) (fun a b => by simp; omega) ns
  have hn2 : (sortI ns).Nodup := hp.nodup_iff.mpr hn
  refine (hs.and hn2).imp fun {a b} ⟨h1, h2⟩ => ?_
  have := of_decide_eq_true h1
  have : a ≠ b := h2
  omega
abbrev N_law_speakers : List Str := ["_law_pen_here", "_law_many", "_law_found", "_law_one"]
def rd_law_speakers : DTS := (dSeq (dAsg (dLst dNil) (dgName 2))
    (dSeq (dWhile (dTest (dOp rLt (dCall rLen (dCons (dVar 2) dNil)) (dVar 1))) (dSeq (dAsg (dOp rMod (dOp rAdd (dFn sp_law_draw (dCons (dVar 0) (dCons (dC (.int 20)) dNil))) (dCall rLen (dCons (dVar 2) dNil))) (dC (.int 20))) (dgName 3))
    (dSeq (dWhile (dTest (dOp (rIn id) (dVar 3) (dVar 2))) (dAsg (dOp rMod (dOp rAdd (dVar 3) (dC (.int 1))) (dC (.int 20))) (dgName 3)))
    (dExp (dMappend (dVar 2) (dCons (dVar 3) dNil))))))
    (dRet (dCall rTuple (dCons (dCall rSorted (dCons (dVar 2) dNil)) dNil)))))

abbrev N_law_debate : List Str := ["_law_pen_here", "_law_many", "_law_crowd", "_law_often", "_law_selves", "_law_found", "_law_one", "_law_other", "_law_chance"]
def rd_law_debate : DTS := (dSeq (dPar3 2 3 4 (dCons (dFn sp_law_speakers (dCons (dVar 0) (dCons (dVar 1) dNil))) (dCons (dOp rAdd (dC (.int 1)) (dFn sp_law_draw (dCons (dVar 0) (dCons (dC (.int 4)) dNil)))) (dCons (dFn sp_law_draw (dCons (dVar 0) (dCons (dC (.int 4)) dNil))) dNil))))
    (dSeq (dAsg (dLst dNil) (dgName 5))
    (dSeq (dFor (diSeq (dVar 2)) (dgName 6) (dFor (diSeq (dVar 2)) (dgName 7) (dSeq (dAsg (dIf (dTest (dOp rNe (dVar 6) (dVar 7))) (dVar 3) (dVar 4)) (dgName 8))
    (dIfS (dTest (dOp rLt (dFn sp_law_draw (dCons (dVar 0) (dCons (dOp rAdd (dC (.int 6)) (dOp rMul (dC (.int 2)) (dCall rToInt (dCons (dOp rEq (dVar 6) (dVar 7)) dNil)))) dNil))) (dVar 8))) (dExp (dMappend (dVar 5) (dCons (dTup (dCons (dVar 6) (dCons (dVar 7) dNil))) dNil))) dNext))))
    (dRet (dTup (dCons (dVar 2) (dCons (dCall rTuple (dCons (dCall rSorted (dCons (dVar 5) dNil)) dNil)) dNil)))))))

theorem ct_law_speakers : ∀ ws m Q E, sp_law_speakers ws m Q E → rd_law_speakers (dEnds Q) (startD N_law_speakers.length ws) m := by
  rintro ws m Q E ⟨a, many, rfl, hm20, ⟨o0, ho0, hp0⟩, q⟩
  simp only [rd_law_speakers, dEnds, dC, dV, dOp, dTest, dChain, dAnd, dOr, dNot, dAndV, dOrV, dNotV, dIf, dNil, dCons, dTup, dLst, dLstF, dFrz, dUn, dNoPart, dPart, dSl, dCall, dNext, dSeq, dNever, dRet, dRetN, dExp, dIfS, dAsg, dPar2, dPar3, dRev, dMappend, dMcount, dgName, dgTup, dgCons, dgNil, rMul, rMod, rFdiv, rPow, rLt, rGt, rLe, rGe, rAny, rAll, rMax2, rMin2, rSub, dFn, dDict0, dDict1, dRngTup, dRngLst, dRg1, dRg2, dComp, dFor, diSeq, diRange1, diRange2, diZip, startD, wipeD, dYes, sx_v0, sx_v1, sx_v2, sx_v3, sx_v4, sx_v5, sx_v6, sx_v7, sx_v8, sx_v9, sx_addI, sx_addT, sx_addL, sx_int, sx_int0, sx_neg, sx_eqI, sx_neI, sx_ordI, sx_ordT, sx_inL, sx_inT, sx_isN, sx_isi_int, sx_isi_bool, sx_isi_str, sx_isi_tuple, sx_isi_list, sx_isi_dict, sx_lenL, sx_lenT, atQ_some, sx_ixL, sx_ixT, at0, at1, at2, ixN30, ixN31, ixN32, sx_setIx, sx_set0, sx_set1, sx_set2, sx_slL, sx_slT, sx_tupL, sx_tupT, sx_listL, sx_listT, sx_sortL, sx_sortT, sx_int2, sx_toI, sx_toB, sx_repr, sx_repL, istup_t, istup_l, isint_i, isbool_i, datas_n, datas_c, Option.map_some, mset_same, mset_mset, List.map_cons, List.map_nil, List.length_cons, List.length_nil, List.getElem?_cons_zero, List.getElem?_cons_succ, List.set_cons_zero, List.set_cons_succ, List.replicate, List.cons_append, List.nil_append]
  refine ⟨by decide, fun b hb => ?_⟩
  have hab : a ≠ b := fun e => by subst e; rw [ho0] at hb; cases hb
  refine whileW_inv (fun n σ m' => ∃ (ns : List Int) (o3 : Option W), σ = [some (.v (.ref a)), some (.d (.int many)), some (.v (.ref b)), o3] ∧ PenAt m' a ∧ m' b = some (.lst (ns.map fun z => W.d (.int z))) ∧ Kp m a m' ∧ ns.Nodup ∧ (∀ z ∈ ns, 0 ≤ z ∧ z < 20) ∧ (ns.length : Int) ≤ max 0 many ∧ n = (many - ns.length).toNat) ?_
    (n := (many - 0).toNat) ⟨[], none, rfl, ⟨o0, by rw [mset_ne hab]; exact ho0, hp0⟩, mset_same, (Kp.refl m a).new hb, List.nodup_nil, by simp, by simp; omega, by simp⟩
  rintro n σ m' N ⟨ns, o3, rfl, hpen, hl, hk, hnd, hr, hle, rfl⟩ hN
  simp only [dEnds, dC, dV, dOp, dTest, dChain, dAnd, dOr, dNot, dAndV, dOrV, dNotV, dIf, dNil, dCons, dTup, dLst, dLstF, dFrz, dUn, dNoPart, dPart, dSl, dCall, dNext, dSeq, dNever, dRet, dRetN, dExp, dIfS, dAsg, dPar2, dPar3, dRev, dMappend, dMcount, dgName, dgTup, dgCons, dgNil, rMul, rMod, rFdiv, rPow, rLt, rGt, rLe, rGe, rAny, rAll, rMax2, rMin2, rSub, dFn, dDict0, dDict1, dRngTup, dRngLst, dRg1, dRg2, dComp, dFor, diSeq, diRange1, diRange2, diZip, startD, wipeD, dYes, sx_v0, sx_v1, sx_v2, sx_v3, sx_v4, sx_v5, sx_v6, sx_v7, sx_v8, sx_v9, sx_addI, sx_addT, sx_addL, sx_int, sx_int0, sx_neg, sx_eqI, sx_neI, sx_ordI, sx_ordT, sx_inL, sx_inT, sx_isN, sx_isi_int, sx_isi_bool, sx_isi_str, sx_isi_tuple, sx_isi_list, sx_isi_dict, sx_lenL, sx_lenT, atQ_some, sx_ixL, sx_ixT, at0, at1, at2, ixN30, ixN31, ixN32, sx_setIx, sx_set0, sx_set1, sx_set2, sx_slL, sx_slT, sx_tupL, sx_tupT, sx_listL, sx_listT, sx_sortL, sx_sortT, sx_int2, sx_toI, sx_toB, sx_repr, sx_repL, istup_t, istup_l, isint_i, isbool_i, datas_n, datas_c, Option.map_some, mset_same, mset_mset, List.map_cons, List.map_nil, List.length_cons, List.length_nil, List.getElem?_cons_zero, List.getElem?_cons_succ, List.set_cons_zero, List.set_cons_succ, List.replicate, List.cons_append, List.nil_append, sx_lenM hl, List.length_map]
  by_cases hc : (ns.length : Int) < many
  · rw [decide_eq_true hc, if_pos rfl]
    refine ⟨a, 20, rfl, by decide, by decide, hpen, fun k o h0 h1 ho => ?_⟩
    have hl' : mset m' a o b = some (.lst (ns.map fun z => W.d (.int z))) := by rw [mset_ne hab.symm]; exact hl
    simp only [dEnds, dC, dV, dOp, dTest, dChain, dAnd, dOr, dNot, dAndV, dOrV, dNotV, dIf, dNil, dCons, dTup, dLst, dLstF, dFrz, dUn, dNoPart, dPart, dSl, dCall, dNext, dSeq, dNever, dRet, dRetN, dExp, dIfS, dAsg, dPar2, dPar3, dRev, dMappend, dMcount, dgName, dgTup, dgCons, dgNil, rMul, rMod, rFdiv, rPow, rLt, rGt, rLe, rGe, rAny, rAll, rMax2, rMin2, rSub, dFn, dDict0, dDict1, dRngTup, dRngLst, dRg1, dRg2, dComp, dFor, diSeq, diRange1, diRange2, diZip, startD, wipeD, dYes, sx_v0, sx_v1, sx_v2, sx_v3, sx_v4, sx_v5, sx_v6, sx_v7, sx_v8, sx_v9, sx_addI, sx_addT, sx_addL, sx_int, sx_int0, sx_neg, sx_eqI, sx_neI, sx_ordI, sx_ordT, sx_inL, sx_inT, sx_isN, sx_isi_int, sx_isi_bool, sx_isi_str, sx_isi_tuple, sx_isi_list, sx_isi_dict, sx_lenL, sx_lenT, atQ_some, sx_ixL, sx_ixT, at0, at1, at2, ixN30, ixN31, ixN32, sx_setIx, sx_set0, sx_set1, sx_set2, sx_slL, sx_slT, sx_tupL, sx_tupT, sx_listL, sx_listT, sx_sortL, sx_sortT, sx_int2, sx_toI, sx_toB, sx_repr, sx_repL, istup_t, istup_l, isint_i, isbool_i, datas_n, datas_c, Option.map_some, mset_same, mset_mset, List.map_cons, List.map_nil, List.length_cons, List.length_nil, List.getElem?_cons_zero, List.getElem?_cons_succ, List.set_cons_zero, List.set_cons_succ, List.replicate, List.cons_append, List.nil_append, sx_lenM hl', List.length_map]
    refine ⟨by decide, ?_⟩
    have hu0 := Int.emod_nonneg (k + (ns.length : Int)) (show (20 : Int) ≠ 0 by decide)
    have hu1 := Int.emod_lt_of_pos (k + (ns.length : Int)) (show (0 : Int) < 20 by decide)
    generalize (k + (ns.length : Int)) % 20 = u at hu0 hu1 ⊢
    obtain ⟨z, hz0, hz1, hz⟩ := free_of hnd (by omega)
    refine whileW_inv (fun n σ m2 => m2 = mset m' a o ∧ ∃ v : Int, 0 ≤ v ∧ v < 20 ∧ σ = [some (.v (.ref a)), some (.d (.int many)), some (.v (.ref b)), some (.d (.int v))] ∧ n = ((z - v) % 20).toNat) ?_ ⟨rfl, u, hu0, hu1, rfl, rfl⟩
    rintro n σ m2 N2 ⟨rfl, v, hv0, hv1, rfl, rfl⟩ hN2
    simp only [dEnds, dC, dV, dOp, dTest, dChain, dAnd, dOr, dNot, dAndV, dOrV, dNotV, dIf, dNil, dCons, dTup, dLst, dLstF, dFrz, dUn, dNoPart, dPart, dSl, dCall, dNext, dSeq, dNever, dRet, dRetN, dExp, dIfS, dAsg, dPar2, dPar3, dRev, dMappend, dMcount, dgName, dgTup, dgCons, dgNil, rMul, rMod, rFdiv, rPow, rLt, rGt, rLe, rGe, rAny, rAll, rMax2, rMin2, rSub, dFn, dDict0, dDict1, dRngTup, dRngLst, dRg1, dRg2, dComp, dFor, diSeq, diRange1, diRange2, diZip, startD, wipeD, dYes, sx_v0, sx_v1, sx_v2, sx_v3, sx_v4, sx_v5, sx_v6, sx_v7, sx_v8, sx_v9, sx_addI, sx_addT, sx_addL, sx_int, sx_int0, sx_neg, sx_eqI, sx_neI, sx_ordI, sx_ordT, sx_inL, sx_inT, sx_isN, sx_isi_int, sx_isi_bool, sx_isi_str, sx_isi_tuple, sx_isi_list, sx_isi_dict, sx_lenL, sx_lenT, atQ_some, sx_ixL, sx_ixT, at0, at1, at2, ixN30, ixN31, ixN32, sx_setIx, sx_set0, sx_set1, sx_set2, sx_slL, sx_slT, sx_tupL, sx_tupT, sx_listL, sx_listT, sx_sortL, sx_sortT, sx_int2, sx_toI, sx_toB, sx_repr, sx_repL, istup_t, istup_l, isint_i, isbool_i, datas_n, datas_c, Option.map_some, mset_same, mset_mset, List.map_cons, List.map_nil, List.length_cons, List.length_nil, List.getElem?_cons_zero, List.getElem?_cons_succ, List.set_cons_zero, List.set_cons_succ, List.replicate, List.cons_append, List.nil_append, sx_inM hl' (datas_ints ns), any_I, inOk_I, id, true_and]
    by_cases hv : v ∈ ns
    · simp only [hv, decide_true, if_true]
      refine ⟨by decide, hN2 (((z - (v + 1) % 20) % 20).toNat) _ _ ?_ ⟨rfl, (v + 1) % 20, by omega, by omega, rfl, rfl⟩⟩
      have : v ≠ z := fun e => hz (e ▸ hv)
      omega
    · simp only [hv, decide_false, Bool.false_eq_true, if_false]
      refine ⟨⟨_, hl'⟩, _, hl', by rw [List.length_map]; omega, ?_⟩
      refine hN ((many - ((ns ++ [v]).length : Nat)).toNat) _ _ (by simp; omega) ⟨ns ++ [v], _, rfl, ?_, ?_, ?_, ?_, ?_, ?_, rfl⟩
      · exact ⟨o, by rw [mset_ne hab, mset_same], ho⟩
      · rw [mset_same]; simp
      · exact (hk.pen).new hb
      · rw [List.nodup_append]
        exact ⟨hnd, by simp, fun x hx y hy => by
          have : y = v := by simpa using hy
          subst this
          exact fun e => hv (e ▸ hx)⟩
      · intro x hx
        rcases List.mem_append.mp hx with h | h
        · exact hr x h
        · have : x = v := by simpa using h
          subst this
          exact ⟨hv0, hv1⟩
      · simp; omega
  · rw [decide_eq_false hc, if_neg Bool.false_ne_true]
    rw [sx_sortM hl (datas_ints ns)]
    refine ⟨sortOk_I ns, ?_⟩
    simp only [dEnds, dC, dV, dOp, dTest, dChain, dAnd, dOr, dNot, dAndV, dOrV, dNotV, dIf, dNil, dCons, dTup, dLst, dLstF, dFrz, dUn, dNoPart, dPart, dSl, dCall, dNext, dSeq, dNever, dRet, dRetN, dExp, dIfS, dAsg, dPar2, dPar3, dRev, dMappend, dMcount, dgName, dgTup, dgCons, dgNil, rMul, rMod, rFdiv, rPow, rLt, rGt, rLe, rGe, rAny, rAll, rMax2, rMin2, rSub, dFn, dDict0, dDict1, dRngTup, dRngLst, dRg1, dRg2, dComp, dFor, diSeq, diRange1, diRange2, diZip, startD, wipeD, dYes, sx_v0, sx_v1, sx_v2, sx_v3, sx_v4, sx_v5, sx_v6, sx_v7, sx_v8, sx_v9, sx_addI, sx_addT, sx_addL, sx_int, sx_int0, sx_neg, sx_eqI, sx_neI, sx_ordI, sx_ordT, sx_inL, sx_inT, sx_isN, sx_isi_int, sx_isi_bool, sx_isi_str, sx_isi_tuple, sx_isi_list, sx_isi_dict, sx_lenL, sx_lenT, atQ_some, sx_ixL, sx_ixT, at0, at1, at2, ixN30, ixN31, ixN32, sx_setIx, sx_set0, sx_set1, sx_set2, sx_slL, sx_slT, sx_tupL, sx_tupT, sx_listL, sx_listT, sx_sortL, sx_sortT, sx_int2, sx_toI, sx_toB, sx_repr, sx_repL, istup_t, istup_l, isint_i, isbool_i, datas_n, datas_c, Option.map_some, mset_same, mset_mset, List.map_cons, List.map_nil, List.length_cons, List.length_nil, List.getElem?_cons_zero, List.getElem?_cons_succ, List.set_cons_zero, List.set_cons_succ, List.replicate, List.cons_append, List.nil_append, sortD_I]
    obtain ⟨o, ho, hpo⟩ := hpen
    refine ⟨_, hk.sub ho, q (sortI ns) o (sortI_sp hnd hr) ?_ hpo⟩
    rw [(sortI_perm ns).length_eq]
    omega
/-! ### debates drawn -/
def IsDeb (ns : List Int) (ps : List (Int × Int)) : Prop := IsSp ns ∧ (ps.Pairwise fun a b => ltP a b = true) ∧ ∀ p ∈ ps, p.1 ∈ ns ∧ p.2 ∈ ns
def sp_law_debate : DSp := fun ws m Q _ => ∃ a many, ws = [.v (.ref a), .d (.int many)] ∧ many ≤ 20 ∧ PenAt m a ∧ ∀ ns ps o, IsDeb ns ps → (ns.length : Int) = max 0 many → PenO o → Q (.d (.tuple [tI ns, tP ps])) (mset m a o)
theorem tk_law_debate : Takes 2 sp_law_debate := by rintro ws m Q E ⟨d, lo, rfl, _⟩; rfl
theorem datas_prs : ∀ ns : List (Int × Int), datas (ns.map fun z => W.d (pr z)) = some (ns.map pr)
  | [] => rfl
  | z :: ns => by
    show (datas (ns.map fun z => W.d (pr z))).map (pr z :: ·) = _
    rw [datas_prs ns]
    rfl
def allPairs : List (Int × Int) := (upTo 20).flatMap fun x => (upTo 20).map fun y => (x, y)
theorem prs_len {ns : List Int} {ps : List (Int × Int)} (hs : ∀ z ∈ ns, 0 ≤ z ∧ z < 20) (h : ps.Pairwise fun a b => ltP a b = true) (h2 : ∀ p ∈ ps, p.1 ∈ ns ∧ p.2 ∈ ns) : ps.length ≤ 400 := by
  have hn : ps.Nodup := h.imp fun {a b} hab e => by subst e; exact ltP_as _ _ hab hab
  have := sub_len (ys := allPairs) hn fun p hp => by
    unfold allPairs
    rw [List.mem_flatMap]
    refine ⟨p.1, upTo_mem.mpr ?_, List.mem_map.mpr ⟨p.2, upTo_mem.mpr ?_, rfl⟩⟩
    · have := hs _ (h2 p hp).1; omega
    · have := hs _ (h2 p hp).2; omega
  have e : allPairs.length = 400 := by decide +kernel
  omega
theorem ltP_snoc {ps : List (Int × Int)} {q : Int × Int} (h : ps.Pairwise fun a b => ltP a b = true) (h2 : ∀ p ∈ ps, ltP p q = true) : (ps ++ [q]).Pairwise fun a b => ltP a b = true := by
  rw [List.pairwise_append]
  exact ⟨h, by simp, fun p hp y hy => by
    have : y = q := by simpa using hy
    subst this
    exact h2 p hp⟩
theorem ct_law_debate : ∀ ws m Q E, sp_law_debate ws m Q E → rd_law_debate (dEnds Q) (startD N_law_debate.length ws) m := by
  rintro ws m Q E ⟨a, many, rfl, hm20, ⟨o0, ho0, hp0⟩, q⟩
  simp only [rd_law_debate, dEnds, dC, dV, dOp, dTest, dChain, dAnd, dOr, dNot, dAndV, dOrV, dNotV, dIf, dNil, dCons, dTup, dLst, dLstF, dFrz, dUn, dNoPart, dPart, dSl, dCall, dNext, dSeq, dNever, dRet, dRetN, dExp, dIfS, dAsg, dPar2, dPar3, dRev, dMappend, dMcount, dgName, dgTup, dgCons, dgNil, rMul, rMod, rFdiv, rPow, rLt, rGt, rLe, rGe, rAny, rAll, rMax2, rMin2, rSub, dFn, dDict0, dDict1, dRngTup, dRngLst, dRg1, dRg2, dComp, dFor, diSeq, diRange1, diRange2, diZip, startD, wipeD, dYes, sx_v0, sx_v1, sx_v2, sx_v3, sx_v4, sx_v5, sx_v6, sx_v7, sx_v8, sx_v9, sx_addI, sx_addT, sx_addL, sx_int, sx_int0, sx_neg, sx_eqI, sx_neI, sx_ordI, sx_ordT, sx_inL, sx_inT, sx_isN, sx_isi_int, sx_isi_bool, sx_isi_str, sx_isi_tuple, sx_isi_list, sx_isi_dict, sx_lenL, sx_lenT, atQ_some, sx_ixL, sx_ixT, at0, at1, at2, ixN30, ixN31, ixN32, sx_setIx, sx_set0, sx_set1, sx_set2, sx_slL, sx_slT, sx_tupL, sx_tupT, sx_listL, sx_listT, sx_sortL, sx_sortT, sx_int2, sx_toI, sx_toB, sx_repr, sx_repL, istup_t, istup_l, isint_i, isbool_i, datas_n, datas_c, Option.map_some, mset_same, mset_mset, List.map_cons, List.map_nil, List.length_cons, List.length_nil, List.getElem?_cons_zero, List.getElem?_cons_succ, List.set_cons_zero, List.set_cons_succ, List.replicate, List.cons_append, List.nil_append]
  refine ⟨a, many, rfl, hm20, ⟨o0, ho0, hp0⟩, fun ns o1 hns hlen ho1 => ⟨a, 4, rfl, by decide, by decide, .set ho1, fun k1 o2 hk0 hk1 ho2 => ?_⟩⟩
  simp only [dEnds, dC, dV, dOp, dTest, dChain, dAnd, dOr, dNot, dAndV, dOrV, dNotV, dIf, dNil, dCons, dTup, dLst, dLstF, dFrz, dUn, dNoPart, dPart, dSl, dCall, dNext, dSeq, dNever, dRet, dRetN, dExp, dIfS, dAsg, dPar2, dPar3, dRev, dMappend, dMcount, dgName, dgTup, dgCons, dgNil, rMul, rMod, rFdiv, rPow, rLt, rGt, rLe, rGe, rAny, rAll, rMax2, rMin2, rSub, dFn, dDict0, dDict1, dRngTup, dRngLst, dRg1, dRg2, dComp, dFor, diSeq, diRange1, diRange2, diZip, startD, wipeD, dYes, sx_v0, sx_v1, sx_v2, sx_v3, sx_v4, sx_v5, sx_v6, sx_v7, sx_v8, sx_v9, sx_addI, sx_addT, sx_addL, sx_int, sx_int0, sx_neg, sx_eqI, sx_neI, sx_ordI, sx_ordT, sx_inL, sx_inT, sx_isN, sx_isi_int, sx_isi_bool, sx_isi_str, sx_isi_tuple, sx_isi_list, sx_isi_dict, sx_lenL, sx_lenT, atQ_some, sx_ixL, sx_ixT, at0, at1, at2, ixN30, ixN31, ixN32, sx_setIx, sx_set0, sx_set1, sx_set2, sx_slL, sx_slT, sx_tupL, sx_tupT, sx_listL, sx_listT, sx_sortL, sx_sortT, sx_int2, sx_toI, sx_toB, sx_repr, sx_repL, istup_t, istup_l, isint_i, isbool_i, datas_n, datas_c, Option.map_some, mset_same, mset_mset, List.map_cons, List.map_nil, List.length_cons, List.length_nil, List.getElem?_cons_zero, List.getElem?_cons_succ, List.set_cons_zero, List.set_cons_succ, List.replicate, List.cons_append, List.nil_append]
  refine ⟨a, 4, rfl, by decide, by decide, .set ho2, fun k2 o3 hk2 hk3 ho3 => ?_⟩
  simp only [dEnds, dC, dV, dOp, dTest, dChain, dAnd, dOr, dNot, dAndV, dOrV, dNotV, dIf, dNil, dCons, dTup, dLst, dLstF, dFrz, dUn, dNoPart, dPart, dSl, dCall, dNext, dSeq, dNever, dRet, dRetN, dExp, dIfS, dAsg, dPar2, dPar3, dRev, dMappend, dMcount, dgName, dgTup, dgCons, dgNil, rMul, rMod, rFdiv, rPow, rLt, rGt, rLe, rGe, rAny, rAll, rMax2, rMin2, rSub, dFn, dDict0, dDict1, dRngTup, dRngLst, dRg1, dRg2, dComp, dFor, diSeq, diRange1, diRange2, diZip, startD, wipeD, dYes, sx_v0, sx_v1, sx_v2, sx_v3, sx_v4, sx_v5, sx_v6, sx_v7, sx_v8, sx_v9, sx_addI, sx_addT, sx_addL, sx_int, sx_int0, sx_neg, sx_eqI, sx_neI, sx_ordI, sx_ordT, sx_inL, sx_inT, sx_isN, sx_isi_int, sx_isi_bool, sx_isi_str, sx_isi_tuple, sx_isi_list, sx_isi_dict, sx_lenL, sx_lenT, atQ_some, sx_ixL, sx_ixT, at0, at1, at2, ixN30, ixN31, ixN32, sx_setIx, sx_set0, sx_set1, sx_set2, sx_slL, sx_slT, sx_tupL, sx_tupT, sx_listL, sx_listT, sx_sortL, sx_sortT, sx_int2, sx_toI, sx_toB, sx_repr, sx_repL, istup_t, istup_l, isint_i, isbool_i, datas_n, datas_c, Option.map_some, mset_same, mset_mset, List.map_cons, List.map_nil, List.length_cons, List.length_nil, List.getElem?_cons_zero, List.getElem?_cons_succ, List.set_cons_zero, List.set_cons_succ, List.replicate, List.cons_append, List.nil_append]
  refine ⟨by decide, fun b hb => ?_⟩
  have hab : a ≠ b := fun e => by subst e; rw [mset_same] at hb; cases hb
  have hb' : m b = none := by rwa [mset_ne hab.symm] at hb
  have hk0' : Kp m a (mset (mset m a o3) b (.lst [])) := ((Kp.refl m a).pen).new hb'
  have hps0 : PenAt (mset (mset m a o3) b (.lst [])) a := ⟨o3, by rw [mset_ne hab, mset_same], ho3⟩
  have hl0 : (mset (mset m a o3) b (.lst [])) b = some (.lst []) := mset_same
  generalize mset (mset m a o3) b (.lst []) = m0 at hk0' hps0 hl0 ⊢
  refine forW_inv (fun wl σ m' => ∃ (rest : List Int) (ps : List (Int × Int)) (s6 s7 s8 : Option W), wl = (rest.map PyData.int).map W.d ∧ σ = [some (.v (.ref a)), some (.d (.int many)), some (.d (tI ns)), some (.d (.int (1 + k1))), some (.d (.int k2)), some (.v (.ref b)), s6, s7, s8]
      ∧ PenAt m' a ∧ m' b = some (.lst (ps.map fun z => W.d (pr z))) ∧ Kp m a m' ∧ (ps.Pairwise fun a b => ltP a b = true) ∧ (∀ p ∈ ps, p.1 ∈ ns ∧ p.2 ∈ ns) ∧ (∀ z ∈ rest, z ∈ ns) ∧ rest.Pairwise (· < ·) ∧ ∀ p ∈ ps, ∀ z ∈ rest, p.1 < z) ?_ ?_ _ _ _
    ⟨ns, [], none, none, none, rfl, rfl, hps0, hl0, hk0', .nil, by simp, fun z h => h, hns.1, by simp⟩
  · rintro w wl σ m' N ⟨rest, ps, s6, s7, s8, hw, rfl, hpen, hl, hk, hpw, hmem, hsub, hrp, hlt⟩ hN
    cases rest with
    | nil => cases hw
    | cons x rest =>
      cases hw
      rw [List.pairwise_cons] at hrp
      simp only [dEnds, dC, dV, dOp, dTest, dChain, dAnd, dOr, dNot, dAndV, dOrV, dNotV, dIf, dNil, dCons, dTup, dLst, dLstF, dFrz, dUn, dNoPart, dPart, dSl, dCall, dNext, dSeq, dNever, dRet, dRetN, dExp, dIfS, dAsg, dPar2, dPar3, dRev, dMappend, dMcount, dgName, dgTup, dgCons, dgNil, rMul, rMod, rFdiv, rPow, rLt, rGt, rLe, rGe, rAny, rAll, rMax2, rMin2, rSub, dFn, dDict0, dDict1, dRngTup, dRngLst, dRg1, dRg2, dComp, dFor, diSeq, diRange1, diRange2, diZip, startD, wipeD, dYes, sx_v0, sx_v1, sx_v2, sx_v3, sx_v4, sx_v5, sx_v6, sx_v7, sx_v8, sx_v9, sx_addI, sx_addT, sx_addL, sx_int, sx_int0, sx_neg, sx_eqI, sx_neI, sx_ordI, sx_ordT, sx_inL, sx_inT, sx_isN, sx_isi_int, sx_isi_bool, sx_isi_str, sx_isi_tuple, sx_isi_list, sx_isi_dict, sx_lenL, sx_lenT, atQ_some, sx_ixL, sx_ixT, at0, at1, at2, ixN30, ixN31, ixN32, sx_setIx, sx_set0, sx_set1, sx_set2, sx_slL, sx_slT, sx_tupL, sx_tupT, sx_listL, sx_listT, sx_sortL, sx_sortT, sx_int2, sx_toI, sx_toB, sx_repr, sx_repL, istup_t, istup_l, isint_i, isbool_i, datas_n, datas_c, Option.map_some, mset_same, mset_mset, List.map_cons, List.map_nil, List.length_cons, List.length_nil, List.getElem?_cons_zero, List.getElem?_cons_succ, List.set_cons_zero, List.set_cons_succ, List.replicate, List.cons_append, List.nil_append]
      refine forW_inv (fun wl σ m' => ∃ (rest2 : List Int) (ps : List (Int × Int)) (s7 s8 : Option W), wl = (rest2.map PyData.int).map W.d ∧ σ = [some (.v (.ref a)), some (.d (.int many)), some (.d (tI ns)), some (.d (.int (1 + k1))), some (.d (.int k2)), some (.v (.ref b)), some (.d (.int x)), s7, s8]
          ∧ PenAt m' a ∧ m' b = some (.lst (ps.map fun z => W.d (pr z))) ∧ Kp m a m' ∧ (ps.Pairwise fun a b => ltP a b = true) ∧ (∀ p ∈ ps, p.1 ∈ ns ∧ p.2 ∈ ns) ∧ (∀ z ∈ rest2, z ∈ ns) ∧ rest2.Pairwise (· < ·) ∧ ∀ p ∈ ps, p.1 < x ∨ (p.1 = x ∧ ∀ z ∈ rest2, p.2 < z)) ?_ ?_ _ _ _
        ⟨ns, ps, s7, s8, rfl, rfl, hpen, hl, hk, hpw, hmem, fun z h => h, hns.1, fun p hp => .inl (hlt p hp x (by simp))⟩
      · rintro w wl σ m' N2 ⟨rest2, ps, s7, s8, hw, rfl, hpen, hl, hk, hpw, hmem, hsub2, hrp2, hlt2⟩ hN2
        cases rest2 with
        | nil => cases hw
        | cons y rest2 =>
          cases hw
          rw [List.pairwise_cons] at hrp2
          simp only [dEnds, dC, dV, dOp, dTest, dChain, dAnd, dOr, dNot, dAndV, dOrV, dNotV, dIf, dNil, dCons, dTup, dLst, dLstF, dFrz, dUn, dNoPart, dPart, dSl, dCall, dNext, dSeq, dNever, dRet, dRetN, dExp, dIfS, dAsg, dPar2, dPar3, dRev, dMappend, dMcount, dgName, dgTup, dgCons, dgNil, rMul, rMod, rFdiv, rPow, rLt, rGt, rLe, rGe, rAny, rAll, rMax2, rMin2, rSub, dFn, dDict0, dDict1, dRngTup, dRngLst, dRg1, dRg2, dComp, dFor, diSeq, diRange1, diRange2, diZip, startD, wipeD, dYes, sx_v0, sx_v1, sx_v2, sx_v3, sx_v4, sx_v5, sx_v6, sx_v7, sx_v8, sx_v9, sx_addI, sx_addT, sx_addL, sx_int, sx_int0, sx_neg, sx_eqI, sx_neI, sx_ordI, sx_ordT, sx_inL, sx_inT, sx_isN, sx_isi_int, sx_isi_bool, sx_isi_str, sx_isi_tuple, sx_isi_list, sx_isi_dict, sx_lenL, sx_lenT, atQ_some, sx_ixL, sx_ixT, at0, at1, at2, ixN30, ixN31, ixN32, sx_setIx, sx_set0, sx_set1, sx_set2, sx_slL, sx_slT, sx_tupL, sx_tupT, sx_listL, sx_listT, sx_sortL, sx_sortT, sx_int2, sx_toI, sx_toB, sx_repr, sx_repL, istup_t, istup_l, isint_i, isbool_i, datas_n, datas_c, Option.map_some, mset_same, mset_mset, List.map_cons, List.map_nil, List.length_cons, List.length_nil, List.getElem?_cons_zero, List.getElem?_cons_succ, List.set_cons_zero, List.set_cons_succ, List.replicate, List.cons_append, List.nil_append]
          have go : ∀ (e c : Int), 0 < e → e < 1073741824 → sp_law_draw [W.v (V.ref a), W.d (PyData.int e)] m'
              (fun x_1 m1 => rOrd (fun i j => decide (i < j)) (fun a b => PySem.W.dataLt a b) x_1 (W.d (PyData.int c)) m1 fun x_2 m' =>
                match x_2 with
                | W.d (PyData.bool k) =>
                  if k = true then
                    (∃ y, m' b = some (MO.lst y)) ∧ 0 + 1 + 1 ≤ 16777216 ∧ ∃ xs, m' b = some (MO.lst xs) ∧ xs.length < 16777216 ∧
                      N2 [some (W.v (V.ref a)), some (W.d (PyData.int many)), some (W.d (tI ns)), some (W.d (PyData.int (1 + k1))), some (W.d (PyData.int k2)), some (W.v (V.ref b)), some (W.d (PyData.int x)), some (W.d (PyData.int y)), some (W.d (PyData.int c))]
                        (mset m' b (MO.lst (xs ++ [W.d (PyData.tuple [PyData.int x, PyData.int y])])))
                  else
                    N2 [some (W.v (V.ref a)), some (W.d (PyData.int many)), some (W.d (tI ns)), some (W.d (PyData.int (1 + k1))), some (W.d (PyData.int k2)), some (W.v (V.ref b)), some (W.d (PyData.int x)), some (W.d (PyData.int y)), some (W.d (PyData.int c))] m'
                | x => False) noX := by
            intro e c he0 he1
            refine ⟨a, e, rfl, he0, he1, hpen, fun k o h0 h1 ho => ?_⟩
            have hl' : mset m' a o b = some (.lst (ps.map fun z => W.d (pr z))) := by rw [mset_ne hab.symm]; exact hl
            simp only [dEnds, dC, dV, dOp, dTest, dChain, dAnd, dOr, dNot, dAndV, dOrV, dNotV, dIf, dNil, dCons, dTup, dLst, dLstF, dFrz, dUn, dNoPart, dPart, dSl, dCall, dNext, dSeq, dNever, dRet, dRetN, dExp, dIfS, dAsg, dPar2, dPar3, dRev, dMappend, dMcount, dgName, dgTup, dgCons, dgNil, rMul, rMod, rFdiv, rPow, rLt, rGt, rLe, rGe, rAny, rAll, rMax2, rMin2, rSub, dFn, dDict0, dDict1, dRngTup, dRngLst, dRg1, dRg2, dComp, dFor, diSeq, diRange1, diRange2, diZip, startD, wipeD, dYes, sx_v0, sx_v1, sx_v2, sx_v3, sx_v4, sx_v5, sx_v6, sx_v7, sx_v8, sx_v9, sx_addI, sx_addT, sx_addL, sx_int, sx_int0, sx_neg, sx_eqI, sx_neI, sx_ordI, sx_ordT, sx_inL, sx_inT, sx_isN, sx_isi_int, sx_isi_bool, sx_isi_str, sx_isi_tuple, sx_isi_list, sx_isi_dict, sx_lenL, sx_lenT, atQ_some, sx_ixL, sx_ixT, at0, at1, at2, ixN30, ixN31, ixN32, sx_setIx, sx_set0, sx_set1, sx_set2, sx_slL, sx_slT, sx_tupL, sx_tupT, sx_listL, sx_listT, sx_sortL, sx_sortT, sx_int2, sx_toI, sx_toB, sx_repr, sx_repL, istup_t, istup_l, isint_i, isbool_i, datas_n, datas_c, Option.map_some, mset_same, mset_mset, List.map_cons, List.map_nil, List.length_cons, List.length_nil, List.getElem?_cons_zero, List.getElem?_cons_succ, List.set_cons_zero, List.set_cons_succ, List.replicate, List.cons_append, List.nil_append]
            have hx : x ∈ ns := hsub x (by simp)
            have hy : y ∈ ns := hsub2 y (by simp)
            by_cases hc : k < c
            · rw [decide_eq_true hc, if_pos rfl]
              have hlen := prs_len hns.2 hpw hmem
              refine ⟨⟨_, hl'⟩, by decide, _, hl', by rw [List.length_map]; omega, hN2 _ _ ⟨rest2, ps ++ [(x, y)], _, _, rfl, rfl, ?_, ?_, ?_, ?_, ?_, fun z h => hsub2 z (by simp [h]), hrp2.2, ?_⟩⟩
              · exact ⟨o, by rw [mset_ne hab, mset_same], ho⟩
              · rw [mset_same]; simp
              · exact (hk.pen).new hb'
              · refine ltP_snoc hpw fun p hp => ?_
                have := hlt2 p hp
                unfold ltP
                rw [decide_eq_true_eq]
                rcases this with h | ⟨h, h2⟩
                · exact .inl h
                · exact .inr ⟨h, h2 y (by simp)⟩
              · intro p hp
                rcases List.mem_append.mp hp with h | h
                · exact hmem p h
                · have : p = (x, y) := by simpa using h
                  subst this
                  exact ⟨hx, hy⟩
              · intro p hp
                rcases List.mem_append.mp hp with h | h
                · rcases hlt2 p h with h | ⟨h, h2⟩
                  · exact .inl h
                  · exact .inr ⟨h, fun z hz => h2 z (by simp [hz])⟩
                · have : p = (x, y) := by simpa using h
                  subst this
                  exact .inr ⟨rfl, fun z hz => hrp2.1 z hz⟩
            · rw [decide_eq_false hc, if_neg Bool.false_ne_true]
              refine hN2 _ _ ⟨rest2, ps, _, _, rfl, rfl, .set ho, hl', hk.pen, hpw, hmem, fun z h => hsub2 z (by simp [h]), hrp2.2, fun p hp => ?_⟩
              rcases hlt2 p hp with h | ⟨h, h2⟩
              · exact .inl h
              · exact .inr ⟨h, fun z hz => h2 z (by simp [hz])⟩
          by_cases hxy : x = y
          · rw [decide_eq_true hxy]
            rw [if_neg (by decide)]
            exact ⟨.inl ⟨by decide, by decide⟩, go _ _ (by decide) (by decide)⟩
          · rw [decide_eq_false hxy]
            rw [if_pos (by decide)]
            exact ⟨.inl ⟨by decide, by decide⟩, go _ _ (by decide) (by decide)⟩
      · rintro σ m' ⟨rest2, ps, s7, s8, hw, rfl, hpen, hl, hk, hpw, hmem, hsub2, hrp2, hlt2⟩
        have hr : rest2 = [] := by simpa using hw.symm
        subst hr
        refine hN _ _ ⟨rest, ps, _, s7, s8, rfl, rfl, hpen, hl, hk, hpw, hmem, fun z h => hsub z (by simp [h]), hrp.2, fun p hp z hz => ?_⟩
        have := hrp.1 z hz
        rcases hlt2 p hp with h | ⟨h, _⟩ <;> omega
  · rintro σ m' ⟨rest, ps, s6, s7, s8, hw, rfl, hpen, hl, hk, hpw, hmem, hsub, hrp, hlt⟩
    simp only [dEnds, dC, dV, dOp, dTest, dChain, dAnd, dOr, dNot, dAndV, dOrV, dNotV, dIf, dNil, dCons, dTup, dLst, dLstF, dFrz, dUn, dNoPart, dPart, dSl, dCall, dNext, dSeq, dNever, dRet, dRetN, dExp, dIfS, dAsg, dPar2, dPar3, dRev, dMappend, dMcount, dgName, dgTup, dgCons, dgNil, rMul, rMod, rFdiv, rPow, rLt, rGt, rLe, rGe, rAny, rAll, rMax2, rMin2, rSub, dFn, dDict0, dDict1, dRngTup, dRngLst, dRg1, dRg2, dComp, dFor, diSeq, diRange1, diRange2, diZip, startD, wipeD, dYes, sx_v0, sx_v1, sx_v2, sx_v3, sx_v4, sx_v5, sx_v6, sx_v7, sx_v8, sx_v9, sx_addI, sx_addT, sx_addL, sx_int, sx_int0, sx_neg, sx_eqI, sx_neI, sx_ordI, sx_ordT, sx_inL, sx_inT, sx_isN, sx_isi_int, sx_isi_bool, sx_isi_str, sx_isi_tuple, sx_isi_list, sx_isi_dict, sx_lenL, sx_lenT, atQ_some, sx_ixL, sx_ixT, at0, at1, at2, ixN30, ixN31, ixN32, sx_setIx, sx_set0, sx_set1, sx_set2, sx_slL, sx_slT, sx_tupL, sx_tupT, sx_listL, sx_listT, sx_sortL, sx_sortT, sx_int2, sx_toI, sx_toB, sx_repr, sx_repL, istup_t, istup_l, isint_i, isbool_i, datas_n, datas_c, Option.map_some, mset_same, mset_mset, List.map_cons, List.map_nil, List.length_cons, List.length_nil, List.getElem?_cons_zero, List.getElem?_cons_succ, List.set_cons_zero, List.set_cons_succ, List.replicate, List.cons_append, List.nil_append]
    rw [sx_sortM hl (datas_prs ps)]
    refine ⟨sortOk_P ps, ?_⟩
    simp only [dEnds, dC, dV, dOp, dTest, dChain, dAnd, dOr, dNot, dAndV, dOrV, dNotV, dIf, dNil, dCons, dTup, dLst, dLstF, dFrz, dUn, dNoPart, dPart, dSl, dCall, dNext, dSeq, dNever, dRet, dRetN, dExp, dIfS, dAsg, dPar2, dPar3, dRev, dMappend, dMcount, dgName, dgTup, dgCons, dgNil, rMul, rMod, rFdiv, rPow, rLt, rGt, rLe, rGe, rAny, rAll, rMax2, rMin2, rSub, dFn, dDict0, dDict1, dRngTup, dRngLst, dRg1, dRg2, dComp, dFor, diSeq, diRange1, diRange2, diZip, startD, wipeD, dYes, sx_v0, sx_v1, sx_v2, sx_v3, sx_v4, sx_v5, sx_v6, sx_v7, sx_v8, sx_v9, sx_addI, sx_addT, sx_addL, sx_int, sx_int0, sx_neg, sx_eqI, sx_neI, sx_ordI, sx_ordT, sx_inL, sx_inT, sx_isN, sx_isi_int, sx_isi_bool, sx_isi_str, sx_isi_tuple, sx_isi_list, sx_isi_dict, sx_lenL, sx_lenT, atQ_some, sx_ixL, sx_ixT, at0, at1, at2, ixN30, ixN31, ixN32, sx_setIx, sx_set0, sx_set1, sx_set2, sx_slL, sx_slT, sx_tupL, sx_tupT, sx_listL, sx_listT, sx_sortL, sx_sortT, sx_int2, sx_toI, sx_toB, sx_repr, sx_repL, istup_t, istup_l, isint_i, isbool_i, datas_n, datas_c, Option.map_some, mset_same, mset_mset, List.map_cons, List.map_nil, List.length_cons, List.length_nil, List.getElem?_cons_zero, List.getElem?_cons_succ, List.set_cons_zero, List.set_cons_succ, List.replicate, List.cons_append, List.nil_append, sortD_P]
    obtain ⟨o, ho, hpo⟩ := hpen
    have e : sortP ps = ps := by
      have h1 := (once_P ps).mpr hpw
      exact h1.1.symm
    rw [e]
    exact ⟨by decide, _, hk.sub ho, q ns ps o ⟨hns, hpw, hmem⟩ hlen hpo⟩
end DL
end
section
set_option maxHeartbeats 1000000
namespace DL
open PySem PySem.Spec L2
open PyProof.Rows hiding St

/-! ### expressions of which only the size counts -/
def DatE (te : DTE) (σ : DS) (m : MM) (w k : Nat) : Prop := ∀ Q : DK, (∀ d, Sz d w k → Q (.d d) m) → te σ m Q
def DatEA (ta : DTA) (σ : DS) (m : MM) (w k : Nat) : Prop := ∀ Q : List W → MM → Prop, (∀ ds, SzA ds w k → Q (ds.map W.d) m) → ta σ m Q
def TupE (te : DTE) (σ : DS) (m : MM) (w k : Nat) : Prop := ∀ Q : DK, (∀ xs, SzA xs w k → Q (.d (.tuple xs)) m) → te σ m Q
def LstE (te : DTE) (σ : DS) (m : MM) (w k : Nat) : Prop := ∀ Q : DK, (∀ xs, SzA xs w k → Q (.d (.list xs)) m) → te σ m Q
section
variable {te tu : DTE} {ta tr : DTA} {σ : DS} {m : MM} {w k w' k' : Nat} {d : PyData} {xs : List PyData} {w0 w1 w2 w3 w4 w5 w6 w7 : Option W}
theorem DatE.int {i : Int} (h : i.natAbs < 10 ^ 12 := by decide) : DatE (dC (.int i)) σ m 40 0 := fun Q q => q _ (.int h)
theorem DatE.non : DatE (dC .none) σ m 0 0 := fun Q q => q _ .non
theorem DatE.bl {b : Bool} : DatE (dC (.bool b)) σ m 0 0 := fun Q q => q _ (.bool b)
theorem DatE.neg {i : Int} (h : i.natAbs < 10 ^ 12 := by decide) : DatE (dUn rNeg (dC (.int i))) σ m 40 0 := fun Q q => q _ (.int (by rw [Int.natAbs_neg]; exact h))
theorem DatE.v1 (h : Sz d w k) : DatE (dVar 1) (w0 :: some (.d d) :: σ) m w k := fun Q q => q _ h
theorem DatE.v2 (h : Sz d w k) : DatE (dVar 2) (w0 :: w1 :: some (.d d) :: σ) m w k := fun Q q => q _ h
theorem DatE.v3 (h : Sz d w k) : DatE (dVar 3) (w0 :: w1 :: w2 :: some (.d d) :: σ) m w k := fun Q q => q _ h
theorem DatE.v4 (h : Sz d w k) : DatE (dVar 4) (w0 :: w1 :: w2 :: w3 :: some (.d d) :: σ) m w k := fun Q q => q _ h
theorem DatE.v5 (h : Sz d w k) : DatE (dVar 5) (w0 :: w1 :: w2 :: w3 :: w4 :: some (.d d) :: σ) m w k := fun Q q => q _ h
theorem DatE.v6 (h : Sz d w k) : DatE (dVar 6) (w0 :: w1 :: w2 :: w3 :: w4 :: w5 :: some (.d d) :: σ) m w k := fun Q q => q _ h
theorem DatE.v7 (h : Sz d w k) : DatE (dVar 7) (w0 :: w1 :: w2 :: w3 :: w4 :: w5 :: w6 :: some (.d d) :: σ) m w k := fun Q q => q _ h
theorem DatE.v8 (h : Sz d w k) : DatE (dVar 8) (w0 :: w1 :: w2 :: w3 :: w4 :: w5 :: w6 :: w7 :: some (.d d) :: σ) m w k := fun Q q => q _ h
theorem TupE.v1 (h : SzA xs w k) : TupE (dVar 1) (w0 :: some (.d (.tuple xs)) :: σ) m w k := fun Q q => q _ h
theorem TupE.v2 (h : SzA xs w k) : TupE (dVar 2) (w0 :: w1 :: some (.d (.tuple xs)) :: σ) m w k := fun Q q => q _ h
theorem TupE.v3 (h : SzA xs w k) : TupE (dVar 3) (w0 :: w1 :: w2 :: some (.d (.tuple xs)) :: σ) m w k := fun Q q => q _ h
theorem TupE.v4 (h : SzA xs w k) : TupE (dVar 4) (w0 :: w1 :: w2 :: w3 :: some (.d (.tuple xs)) :: σ) m w k := fun Q q => q _ h
theorem TupE.v5 (h : SzA xs w k) : TupE (dVar 5) (w0 :: w1 :: w2 :: w3 :: w4 :: some (.d (.tuple xs)) :: σ) m w k := fun Q q => q _ h
theorem TupE.v6 (h : SzA xs w k) : TupE (dVar 6) (w0 :: w1 :: w2 :: w3 :: w4 :: w5 :: some (.d (.tuple xs)) :: σ) m w k := fun Q q => q _ h
theorem TupE.v7 (h : SzA xs w k) : TupE (dVar 7) (w0 :: w1 :: w2 :: w3 :: w4 :: w5 :: w6 :: some (.d (.tuple xs)) :: σ) m w k := fun Q q => q _ h
theorem TupE.v8 (h : SzA xs w k) : TupE (dVar 8) (w0 :: w1 :: w2 :: w3 :: w4 :: w5 :: w6 :: w7 :: some (.d (.tuple xs)) :: σ) m w k := fun Q q => q _ h
theorem DatEA.nil : DatEA dNil σ m 0 0 := fun Q q => q [] .nil
theorem DatEA.cons (h : DatE te σ m w k) (t : DatEA tr σ m w' k') : DatEA (dCons te tr) σ m (w + 1 + w') (max k k') := fun Q q => h _ fun d hd => t _ fun ds hds => q (d :: ds) (.cons hd hds)
theorem SzA.len {w k : Nat} (h : SzA xs w k) : xs.length ≤ w := Nat.le_trans (weight_len xs) h.wt
theorem TupE.tup (h : DatEA ta σ m w k) (hw : w ≤ 16777216 := by decide) : TupE (dTup ta) σ m w k := fun Q q => h _ fun ds hd => by
  show (match datas (ds.map W.d) with | some ds => ds.length ≤ 16777216 ∧ Q (.d (.tuple ds)) m | none => False)
  rw [datas_map]
  exact ⟨Nat.le_trans hd.len hw, q ds hd⟩
theorem LstE.lst (h : DatEA ta σ m w k) (hw : w ≤ 16777216 := by decide) : LstE (dLstF ta) σ m w k := fun Q q => h _ fun ds hd => by
  show (match datas (ds.map W.d) with | some ds => ds.length ≤ 16777216 ∧ Q (.d (.list ds)) m | none => False)
  rw [datas_map]
  exact ⟨Nat.le_trans hd.len hw, q ds hd⟩
theorem DatE.ofT (h : TupE te σ m w k) : DatE te σ m w (k + 1) := fun Q q => h _ fun xs hx => q _ (.tup hx)
theorem DatE.ofL (h : LstE te σ m w k) : DatE te σ m w (k + 1) := fun Q q => h _ fun xs hx => q _ (.lst hx)
theorem TupE.add (h : TupE te σ m w k) (t : TupE tu σ m w' k') (hw : w + w' ≤ 16777216 := by decide) : TupE (dOp rAdd te tu) σ m (w + w') (max k k') := fun Q q => h _ fun xs hx => t _ fun ys hy => by
  show rAdd (.d (.tuple xs)) (.d (.tuple ys)) m Q
  rw [sx_addT]
  have := hx.len; have := hy.len
  exact ⟨by omega, q _ (hx.append hy)⟩
theorem LstE.add (h : LstE te σ m w k) (t : LstE tu σ m w' k') (hw : w + w' ≤ 16777216 := by decide) : LstE (dOp rAdd te tu) σ m (w + w') (max k k') := fun Q q => h _ fun xs hx => t _ fun ys hy => by
  show rAdd (.d (.list xs)) (.d (.list ys)) m Q
  rw [sx_addL]
  have := hx.len; have := hy.len
  exact ⟨by omega, q _ (hx.append hy)⟩
theorem SzA.tail {d : PyData} {ds : List PyData} (h : SzA (d :: ds) w k) : Sz d w k ∧ SzA ds (w - (d.weight + 1)) k ∧ d.weight + 1 ≤ w := by
  have h1 := h.lay; have h2 := h.isho; have h3 := h.show'; have h4 := h.dep; have h5 := h.wt
  rw [PyData.canLayAll0, Bool.and_eq_true] at h1
  rw [PyData.intsShortAll, Bool.and_eq_true] at h2
  rw [PyData.showableAll, Bool.and_eq_true] at h3
  rw [PyData.depthAll] at h4
  rw [PyData.weightAll] at h5
  exact ⟨⟨h1.1, h2.1, h3.1, by omega, by omega⟩, ⟨h1.2, h2.2, h3.2, by omega, by omega⟩, by omega⟩
theorem SzA.mem {ds : List PyData} (h : SzA ds w k) : ∀ d ∈ ds, Sz d w k := by
  induction ds generalizing w with
  | nil => simp
  | cons e ds ih =>
    obtain ⟨h1, h2, h3⟩ := h.tail
    intro d hd
    rcases List.mem_cons.mp hd with rfl | hd
    · exact h1
    · exact (ih h2 d hd).le (by omega) (Nat.le_refl _)
theorem SzA.sub {ds es : List PyData} (h : SzA ds w k) (s : es.Sublist ds) : SzA es w k := by
  induction s generalizing w with
  | slnil => exact h
  | cons a s ih =>
    obtain ⟨h1, h2, h3⟩ := h.tail
    exact (ih h2).le (by omega) (Nat.le_refl _)
  | cons_cons a s ih =>
    obtain ⟨h1, h2, h3⟩ := h.tail
    have e : Sz a a.weight k := ⟨h1.lay, h1.isho, h1.show', h1.dep, Nat.le_refl _⟩
    exact (SzA.cons e (ih h2)).le (by omega) (by omega)
theorem SzA.rev {ds : List PyData} (h : SzA ds w k) : SzA ds.reverse w k := by
  induction ds generalizing w with
  | nil => exact h
  | cons d ds ih =>
    obtain ⟨h1, h2, h3⟩ := h.tail
    have e : Sz d d.weight k := ⟨h1.lay, h1.isho, h1.show', h1.dep, Nat.le_refl _⟩
    rw [List.reverse_cons]
    exact ((ih h2).append (SzA.cons e SzA.nil)).le (by omega) (by omega)
theorem SzA.cut {ds : List PyData} (h : SzA ds w k) (lo hi : Option Int) : SzA (DL.cut ds lo hi) w k := h.sub ((List.take_sublist _ _).trans (List.drop_sublist _ _))
theorem TupE.rev (h : TupE te σ m w k) : TupE (dRev te) σ m w k := fun Q q => h _ fun xs hx => q _ hx.rev
theorem TupE.slFrom {tl : DTE} {i : Int} (h : TupE te σ m w k) (hl : ∀ (Q : DK), Q (.d (.int i)) m → tl σ m Q) : TupE (dSl te (dPart tl) dNoPart) σ m w k := fun Q q => h _ fun xs hx => hl _ (q _ (hx.cut _ _))
theorem LstE.ofTup (h : TupE te σ m w k) : LstE (dCall rList (dCons te dNil)) σ m w k := fun Q q => h _ fun xs hx => q _ hx
theorem TupE.tup' (h : DatEA ta σ m w k) (hw : w ≤ 16777216) : TupE (dTup ta) σ m w k := TupE.tup h hw
theorem LstE.lst' (h : DatEA ta σ m w k) (hw : w ≤ 16777216) : LstE (dLstF ta) σ m w k := LstE.lst h hw
theorem TupE.add' (h : TupE te σ m w k) (t : TupE tu σ m w' k') (hw : w + w' ≤ 16777216) : TupE (dOp rAdd te tu) σ m (w + w') (max k k') := TupE.add h t hw
theorem DatE.tupd (h : DatEA ta σ m w k) (hw : w ≤ 16777216) : DatE (dTup ta) σ m w (k + 1) := .ofT (TupE.tup h hw)
theorem DatE.lstd (h : DatEA ta σ m w k) (hw : w ≤ 16777216) : DatE (dLstF ta) σ m w (k + 1) := .ofL (LstE.lst h hw)
theorem DatE.lsT (h : TupE te σ m w k) : DatE (dCall rList (dCons te dNil)) σ m w (k + 1) := .ofL (LstE.ofTup h)
theorem iE_c {i : Int} : ∀ (Q : DK), Q (.d (.int i)) m → dC (.int i) σ m Q := fun Q q => q
theorem iE_neg {i : Int} : ∀ (Q : DK), Q (.d (.int (-i))) m → dUn rNeg (dC (.int i)) σ m Q := fun Q q => q
theorem TupE.rng {n : Int} (hn : 0 ≤ n ∧ n ≤ 1000 := by decide) : TupE (dRngTup (dRg1 (dC (.int n)))) σ m 41000 0 := fun Q q => ⟨⟨by omega, by omega, by omega, by omega⟩, q _ (by
  unfold rgD
  have e : ((List.range (n - 0).toNat).map fun i => PyData.int (0 + ((i : Nat) : Int))) = ((List.range (n - 0).toNat).map fun i => (0 : Int) + ((i : Nat) : Int)).map PyData.int := by
    rw [List.map_map]; rfl
  rw [e]
  exact SzA.nums (n := 1000) (fun z hz => by
    obtain ⟨i, hi, rfl⟩ := List.mem_map.mp hz
    have := List.mem_range.mp hi
    omega) (by simp; omega))⟩
theorem st_seq {t u : DTS} {D : DEnds} (h : t { D with nx := fun σ m => u D σ m } σ m) : dSeq t u D σ m := h
theorem st_ret {D : DEnds} (h : te σ m D.rt) : dRet te D σ m := h
end
end DL
end
section
set_option maxHeartbeats 1000000
namespace DL
open PySem PySem.Spec L2
open PyProof.Rows hiding St

theorem atI_mem {α : Type} {xs : List α} {k : Int} (h0 : 0 ≤ k) (h1 : k < xs.length) : ∃ v, atI xs k = some v ∧ v ∈ xs := by
  obtain ⟨n, rfl⟩ := Int.eq_ofNat_of_zero_le h0
  have hn : n < xs.length := by omega
  exact ⟨xs[n], by simp [atI, ixN, hn], List.getElem_mem hn⟩
/-- what is shown to is_debate -/
def Good (d : PyData) : Prop := (∃ w k, Sz d w k ∧ w ≤ 1048576 ∧ k ≤ 64) ∨ d = .dict [] ∨ d = .dict [(.int 0, .int 1)]
theorem Good.repr {d : PyData} (h : Good d) : ReprOk d := by
  rcases h with ⟨w, k, h, hw, hk⟩ | rfl | rfl
  · exact h.repr hw hk
  · exact ⟨by decide, by decide, by decide, by decide +kernel⟩
  · exact ⟨by decide +kernel, by decide, by decide, by decide +kernel⟩
theorem Good.len {d : PyData} (h : Good d) : lenOk d := by
  rcases h with ⟨w, k, h, hw, hk⟩ | rfl | rfl
  · rintro a ys rfl
    have h1 := h.wt
    have h2 := weight_len ys
    simp only [PyData.weight, PyData.weightAll] at h1
    omega
  · rintro a ys e; cases e
  · rintro a ys e; cases e
def sp_law_odd : DSp := fun ws m Q _ => ∃ a, ws = [.v (.ref a)] ∧ PenAt m a ∧ ∀ d o, (∃ w, Sz d w 20 ∧ w ≤ 10000) ∨ d = .dict [] ∨ d = .dict [(.int 0, .int 1)] → PenO o → Q (.d d) (mset m a o)
def sp_law_near : DSp := fun ws m Q _ => ∃ a ns ps, ws = [.v (.ref a), .d (.tuple [tI ns, tP ps])] ∧ PenAt m a ∧ IsDeb ns ps ∧ ∀ ds o, (∀ d ∈ ds, Good d) → PenO o → Q (.d (.list ds)) (mset m a o)
theorem tk_law_odd : Takes 1 sp_law_odd := by rintro ws m Q E ⟨d, rfl, _⟩; rfl
theorem tk_law_near : Takes 2 sp_law_near := by rintro ws m Q E ⟨d, ns, ps, rfl, _⟩; rfl
def sp_law : DSp := fun ws m Q _ => ∃ ns : List Int, ws = [.d (.list (ns.map PyData.int))] ∧ Q (.d (.bool true)) m
theorem tk_law : Takes 1 sp_law := by rintro ws m Q E ⟨d, rfl, _⟩; rfl
abbrev N_law_odd : List Str := ["_law_pen_here", "_law_some"]
def rd_law_odd : DTS := (dSeq (dAsg (dLstF (dCons (dC .none) (dCons (dC (.bool true)) (dCons (dC (.bool false)) (dCons (dC (.int 0)) (dCons (dC (.int 1)) (dCons (dUn rNeg (dC (.int 1))) (dCons (dC (.int 20)) (dCons (dOp rPow (dC (.int 10)) (dC (.int 12))) (dCons (dC (.str "")) (dCons (dC (.str "0")) (dCons (dC (.str "debate")) (dCons (dTup dNil) (dCons (dLstF dNil) (dCons dDict0 (dCons (dTup (dCons (dC (.int 0)) dNil)) (dCons (dLstF (dCons (dC (.int 0)) dNil)) (dCons (dTup (dCons (dC (.bool true)) dNil)) (dCons (dTup (dCons (dC .none) dNil)) dNil))))))))))))))))))) (dgName 1))
    (dSeq (dAsg (dOp rAdd (dVar 1) (dLstF (dCons (dTup (dCons (dTup dNil) (dCons (dTup dNil) dNil))) (dCons (dTup (dCons (dTup (dCons (dC (.int 0)) dNil)) (dCons (dTup dNil) dNil))) (dCons (dTup (dCons (dTup (dCons (dC (.int 0)) dNil)) (dCons (dTup (dCons (dTup (dCons (dC (.int 0)) (dCons (dC (.int 0)) dNil))) dNil)) dNil))) (dCons (dTup (dCons (dC (.int 0)) (dCons (dC (.int 1)) dNil))) (dCons (dTup (dCons (dTup (dCons (dC (.int 0)) (dCons (dC (.int 1)) dNil))) dNil)) (dCons (dDict1 (0) (dC (.int 1))) (dCons (dTup (dCons (dTup (dCons (dC (.int 0)) dNil)) (dCons (dLstF (dCons (dTup (dCons (dC (.int 0)) (dCons (dC (.int 0)) dNil))) dNil)) dNil))) dNil))))))))) (dgName 1))
    (dRet (dOp rIx (dVar 1) (dFn sp_law_draw (dCons (dVar 0) (dCons (dC (.int 25)) dNil)))))))

abbrev N_law_near : List Str := ["_law_pen_here", "_law_debate_here", "_law_crowd", "_law_hits", "_law_some", "_law_one"]
def rd_law_near : DTS := (dSeq (dAsg (dVar 1) (dgTup 2 (dgCons (dgName 2) (dgCons (dgName 3) dgNil))))
    (dSeq (dAsg (dLstF (dCons (dVar 1) (dCons (dTup (dCons (dVar 2) (dCons (dRev (dVar 3)) dNil))) (dCons (dTup (dCons (dVar 2) (dCons (dOp rAdd (dVar 3) (dSl (dVar 3) (dPart (dUn rNeg (dC (.int 1)))) dNoPart)) dNil))) (dCons (dTup (dCons (dRev (dVar 2)) (dCons (dVar 3) dNil))) (dCons (dTup (dCons (dVar 2) (dCons (dCall rList (dCons (dVar 3) dNil)) dNil))) dNil)))))) (dgName 4))
    (dSeq (dAsg (dOp rAdd (dVar 4) (dLstF (dCons (dLstF (dCons (dVar 2) (dCons (dVar 3) dNil))) (dCons (dTup (dCons (dCall rList (dCons (dVar 2) dNil)) (dCons (dVar 3) dNil))) (dCons (dTup (dCons (dVar 2) dNil)) (dCons (dTup (dCons (dVar 2) (dCons (dVar 3) (dCons (dTup dNil) dNil)))) (dCons (dTup (dCons (dSl (dVar 2) (dPart (dC (.int 1))) dNoPart) (dCons (dVar 3) dNil))) (dCons (dTup (dCons (dVar 3) (dCons (dVar 2) dNil))) dNil)))))))) (dgName 4))
    (dSeq (dAsg (dOp rAdd (dVar 4) (dLstF (dCons (dTup (dCons (dOp rAdd (dVar 2) (dSl (dVar 2) (dPart (dUn rNeg (dC (.int 1)))) dNoPart)) (dCons (dVar 3) dNil))) (dCons (dTup (dCons (dOp rAdd (dVar 2) (dTup (dCons (dC (.int 20)) dNil))) (dCons (dVar 3) dNil))) (dCons (dTup (dCons (dOp rAdd (dTup (dCons (dUn rNeg (dC (.int 1))) dNil)) (dVar 2)) (dCons (dVar 3) dNil))) (dCons (dTup (dCons (dVar 2) (dCons (dSl (dVar 3) (dPart (dC (.int 1))) dNoPart) dNil))) dNil)))))) (dgName 4))
    (dSeq (dAsg (dOp rAdd (dVar 4) (dLstF (dCons (dTup (dCons (dVar 2) (dCons (dOp rAdd (dVar 3) (dTup (dCons (dTup (dCons (dC (.int 19)) (dCons (dC (.int 19)) dNil))) dNil))) dNil))) (dCons (dTup (dCons (dVar 2) (dCons (dOp rAdd (dTup (dCons (dTup (dCons (dC (.int 0)) (dCons (dC (.int 1)) dNil))) dNil)) (dVar 3)) dNil))) (dCons (dTup (dCons (dVar 2) (dCons (dOp rAdd (dVar 3) (dTup (dCons (dC .none) dNil))) dNil))) (dCons (dTup (dCons (dVar 2) (dCons (dTup dNil) dNil))) dNil)))))) (dgName 4))
    (dSeq (dAsg (dIf (dTest (dOp rNe (dVar 2) (dTup dNil))) (dOp rIx (dVar 2) (dFn sp_law_draw (dCons (dVar 0) (dCons (dCall rLen (dCons (dVar 2) dNil)) dNil)))) (dC (.int 0))) (dgName 5))
    (dSeq (dAsg (dOp rAdd (dVar 4) (dLstF (dCons (dTup (dCons (dVar 2) (dCons (dTup (dCons (dTup (dCons (dVar 5) (dCons (dVar 5) dNil))) dNil)) dNil))) (dCons (dTup (dCons (dVar 2) (dCons (dTup (dCons (dTup (dCons (dVar 5) dNil)) dNil)) dNil))) (dCons (dTup (dCons (dVar 2) (dCons (dTup (dCons (dTup (dCons (dVar 5) (dCons (dVar 5) (dCons (dVar 5) dNil)))) dNil)) dNil))) (dCons (dTup (dCons (dVar 2) (dCons (dTup (dCons (dLstF (dCons (dVar 5) (dCons (dVar 5) dNil))) dNil)) dNil))) dNil)))))) (dgName 4))
    (dSeq (dAsg (dOp rAdd (dVar 4) (dLstF (dCons (dTup (dCons (dVar 2) (dCons (dTup (dCons (dTup (dCons (dVar 5) (dCons (dC (.int 20)) dNil))) dNil)) dNil))) (dCons (dTup (dCons (dVar 2) (dCons (dTup (dCons (dTup (dCons (dC (.bool true)) (dCons (dVar 5) dNil))) dNil)) dNil))) (dCons (dTup (dCons (dOp rAdd (dTup (dCons (dC (.bool false)) dNil)) (dSl (dVar 2) (dPart (dC (.int 1))) dNoPart)) (dCons (dVar 3) dNil))) (dCons (dTup (dCons (dRngTup (dRg1 (dC (.int 16)))) (dCons (dTup dNil) dNil))) dNil)))))) (dgName 4))
    (dRet (dOp rAdd (dVar 4) (dLstF (dCons (dTup (dCons (dRngTup (dRg1 (dC (.int 15)))) (dCons (dTup (dCons (dTup (dCons (dC (.int 14)) (dCons (dC (.int 14)) dNil))) dNil)) dNil))) (dCons (dFn sp_law_odd (dCons (dVar 0) dNil)) (dCons (dFn sp_law_odd (dCons (dVar 0) dNil)) dNil))))))))))))))

abbrev N_law : List Str := ["_law_script", "_law_k", "_law_pen_here", "_law_many", "_law_value", "_law_kept", "_law_due"]
def rd_law : DTS := (dSeq (dFor (diRange1 (dCons (dCall rMax2 (dCons (dC (.int 1)) (dCons (dCall rMin2 (dCons (dCall rLen (dCons (dVar 0) dNil)) (dCons (dC (.int 3)) dNil))) dNil))) dNil)) (dgName 1) (dSeq (dAsg (dFn sp_law_pen (dCons (dFn sp_law_cell (dCons (dVar 0) (dCons (dVar 1) dNil))) dNil)) (dgName 2))
    (dFor (diSeq (dLstF (dCons (dFn sp_law_draw (dCons (dVar 2) (dCons (dC (.int 9)) dNil))) (dCons (dFn sp_law_draw (dCons (dVar 2) (dCons (dC (.int 4)) dNil))) (dCons (dC (.int 15)) dNil))))) (dgName 3) (dFor (diSeq (dFn sp_law_near (dCons (dVar 2) (dCons (dFn sp_law_debate (dCons (dVar 2) (dCons (dVar 3) dNil))) dNil)))) (dgName 4) (dSeq (dPar2 5 6 (dCons (dCall rRepr (dCons (dVar 4) dNil)) (dCons (dFn sp_law_is_debate (dCons (dVar 4) dNil)) dNil)))
    (dIfS (dOr (dNot (dTest (dFn sp_law_same (dCons (dLstF (dCons (dFn sp_is_debate (dCons (dVar 4) dNil)) (dCons (dFn sp_is_debate (dCons (dVar 4) dNil)) dNil))) (dCons (dLstF (dCons (dVar 6) (dCons (dVar 6) dNil))) dNil))))) (dTest (dOp rNe (dCall rRepr (dCons (dVar 4) dNil)) (dVar 5)))) (dRet (dC (.bool false))) dNext))))))
    (dRet (dC (.bool true))))

def oddVals : List PyData := [.none, .bool true, .bool false, .int 0, .int 1, .int (-1), .int 20, .int (10 ^ Int.toNat 12), .str "", .str "0", .str "debate", .tuple [], .list [], .dict [], .tuple [.int 0], .list [.int 0], .tuple [.bool true], .tuple [.none],
  .tuple [.tuple [], .tuple []], .tuple [.tuple [.int 0], .tuple []], .tuple [.tuple [.int 0], .tuple [.tuple [.int 0, .int 0]]], .tuple [.int 0, .int 1], .tuple [.tuple [.int 0, .int 1]], .dict [(.int 0, .int 1)], .tuple [.tuple [.int 0], .list [.tuple [.int 0, .int 0]]]]
theorem odd_ok : ∀ d ∈ oddVals, (∃ w, Sz d w 20 ∧ w ≤ 10000) ∨ d = .dict [] ∨ d = .dict [(.int 0, .int 1)] := by
  intro d hd
  have key : oddVals.all (fun d => (d.canLay0 && d.intsShort 13 && d.showable && decide (d.depth ≤ 20) && decide (d.weight ≤ 10000)) || (match d with | .dict [] => true | .dict [(.int 0, .int 1)] => true | _ => false)) = true := by decide +kernel
  have := List.all_eq_true.mp key d hd
  rw [Bool.or_eq_true] at this
  rcases this with h | h
  · simp only [Bool.and_eq_true, decide_eq_true_eq] at h
    exact .inl ⟨10000, ⟨h.1.1.1.1, h.1.1.1.2, h.1.1.2, h.1.2, h.2⟩, Nat.le_refl _⟩
  · split at h
    · exact .inr (.inl rfl)
    · exact .inr (.inr rfl)
    · cases h
theorem ct_law_odd : ∀ ws m Q E, sp_law_odd ws m Q E → rd_law_odd (dEnds Q) (startD N_law_odd.length ws) m := by
  rintro ws m Q E ⟨a, rfl, hpen, q⟩
  simp only [rd_law_odd, dEnds, dC, dV, dOp, dTest, dChain, dAnd, dOr, dNot, dAndV, dOrV, dNotV, dIf, dNil, dCons, dTup, dLst, dLstF, dFrz, dUn, dNoPart, dPart, dSl, dCall, dNext, dSeq, dNever, dRet, dRetN, dExp, dIfS, dAsg, dPar2, dPar3, dRev, dMappend, dMcount, dgName, dgTup, dgCons, dgNil, rMul, rMod, rFdiv, rPow, rLt, rGt, rLe, rGe, rAny, rAll, rMax2, rMin2, rSub, dFn, dDict0, dDict1, dRngTup, dRngLst, dRg1, dRg2, dComp, dFor, diSeq, diRange1, diRange2, diZip, startD, wipeD, dYes, sx_v0, sx_v1, sx_v2, sx_v3, sx_v4, sx_v5, sx_v6, sx_v7, sx_v8, sx_v9, sx_addI, sx_addT, sx_addL, sx_int, sx_int0, sx_neg, sx_eqI, sx_neI, sx_ordI, sx_ordT, sx_inL, sx_inT, sx_isN, sx_isi_int, sx_isi_bool, sx_isi_str, sx_isi_tuple, sx_isi_list, sx_isi_dict, sx_lenL, sx_lenT, atQ_some, sx_ixL, sx_ixT, at0, at1, at2, ixN30, ixN31, ixN32, sx_setIx, sx_set0, sx_set1, sx_set2, sx_slL, sx_slT, sx_tupL, sx_tupT, sx_listL, sx_listT, sx_sortL, sx_sortT, sx_int2, sx_toI, sx_toB, sx_repr, sx_repL, istup_t, istup_l, isint_i, isbool_i, datas_n, datas_c, Option.map_some, mset_same, mset_mset, List.map_cons, List.map_nil, List.length_cons, List.length_nil, List.getElem?_cons_zero, List.getElem?_cons_succ, List.set_cons_zero, List.set_cons_succ, List.replicate, List.cons_append, List.nil_append]
  refine ⟨⟨by decide, by decide, by decide⟩, ?_⟩
  repeat' (refine And.intro (by decide) ?_)
  refine ⟨a, 25, rfl, by decide, by decide, hpen, fun k o h0 h1 ho => ?_⟩
  obtain ⟨v, e, hv⟩ := atI_mem (xs := oddVals) h0 (by simpa [oddVals] using h1)
  show rIx (.d (.list oddVals)) (.d (.int k)) (mset m a o) _
  rw [sx_ixL, e]
  exact ⟨_, .refl _, q v o (odd_ok v hv) ho⟩
def GoodL (te : DTE) (σ : DS) (m : MM) (n : Nat) : Prop := ∀ Q : DK, (∀ xs : List PyData, (∀ d ∈ xs, Good d) → xs.length ≤ n → Q (.d (.list xs)) m) → te σ m Q
section
variable {te tu : DTE} {σ : DS} {m : MM} {w k n n' i j : Nat} {xs : List PyData} {w0 w1 w2 w3 : Option W} {D : DEnds} {a b : PyData}
theorem GoodL.disp (h : LstE te σ m w k) (hw : w ≤ 1048576 := by decide) (hk : k ≤ 64 := by decide) : GoodL te σ m w := fun Q q => h _ fun xs hx => q xs (fun d hd => .inl ⟨w, k, hx.mem d hd, hw, hk⟩) hx.len
theorem GoodL.ex (h : ∃ w k, LstE te σ m w k ∧ w ≤ 1048576 ∧ k ≤ 64) : GoodL te σ m 1048576 := fun Q q => let ⟨w, k, h, hw, hk⟩ := h; h _ fun xs hx => q xs (fun d hd => .inl ⟨w, k, hx.mem d hd, hw, hk⟩) (Nat.le_trans hx.len hw)
theorem GoodL.v4 (h : ∀ d ∈ xs, Good d) (hn : xs.length ≤ n) : GoodL (dVar 4) (w0 :: w1 :: w2 :: w3 :: some (.d (.list xs)) :: σ) m n := fun Q q => q xs h hn
theorem GoodL.add (h : GoodL te σ m n) (t : GoodL tu σ m n') (hw : n + n' ≤ 16777216 := by decide) : GoodL (dOp rAdd te tu) σ m (n + n') := fun Q q => h _ fun xs hx hn => t _ fun ys hy hn' => by
  show rAdd (.d (.list xs)) (.d (.list ys)) m Q
  rw [sx_addL]
  refine ⟨by omega, q _ (fun d hd => ?_) (by rw [List.length_append]; omega)⟩
  rcases List.mem_append.mp hd with h | h
  · exact hx d h
  · exact hy d h
theorem st_good {u : DTS} (h : GoodL te σ m n) (q : ∀ xs : List PyData, (∀ d ∈ xs, Good d) → xs.length ≤ n → u D (σ.set i (some (.d (.list xs)))) m) : dSeq (dAsg te (dgName i)) u D σ m := h _ q
theorem st_unpack1 {u : DTS} (h : u D (((w0 :: some (.d (.tuple [a, b])) :: σ).set i (some (.d a))).set j (some (.d b))) m) : dSeq (dAsg (dVar 1) (dgTup 2 (dgCons (dgName i) (dgCons (dgName j) dgNil)))) u D (w0 :: some (.d (.tuple [a, b])) :: σ) m := ⟨rfl, h⟩
end
theorem mset_self {m : MM} {a : Addr} {o : MO} (h : m a = some o) : mset m a o = m := by
  funext b
  unfold mset
  split
  · rename_i e; subst e; exact h.symm
  · rfl
theorem near_one {m : MM} {a : Addr} {ns : List Int} {D : DEnds} {w1 w3 w4 : Option W} (hpen : PenAt m a) (hns : IsSp ns)
    (h : ∀ (z : Int) (o : MO), PenO o → z.natAbs < 10 ^ 12 → D.nx [some (.v (.ref a)), w1, some (.d (tI ns)), w3, w4, some (.d (.int z))] (mset m a o)) :
    dAsg (dIf (dTest (dOp rNe (dVar 2) (dTup dNil))) (dOp rIx (dVar 2) (dFn sp_law_draw (dCons (dVar 0) (dCons (dCall rLen (dCons (dVar 2) dNil)) dNil)))) (dC (.int 0))) (dgName 5) D [some (.v (.ref a)), w1, some (.d (tI ns)), w3, w4, none] m := by
  simp only [dEnds, dC, dV, dOp, dTest, dChain, dAnd, dOr, dNot, dAndV, dOrV, dNotV, dIf, dNil, dCons, dTup, dLst, dLstF, dFrz, dUn, dNoPart, dPart, dSl, dCall, dNext, dSeq, dNever, dRet, dRetN, dExp, dIfS, dAsg, dPar2, dPar3, dRev, dMappend, dMcount, dgName, dgTup, dgCons, dgNil, rMul, rMod, rFdiv, rPow, rLt, rGt, rLe, rGe, rAny, rAll, rMax2, rMin2, rSub, dFn, dDict0, dDict1, dRngTup, dRngLst, dRg1, dRg2, dComp, dFor, diSeq, diRange1, diRange2, diZip, startD, wipeD, dYes, sx_v0, sx_v1, sx_v2, sx_v3, sx_v4, sx_v5, sx_v6, sx_v7, sx_v8, sx_v9, sx_addI, sx_addT, sx_addL, sx_int, sx_int0, sx_neg, sx_eqI, sx_neI, sx_ordI, sx_ordT, sx_inL, sx_inT, sx_isN, sx_isi_int, sx_isi_bool, sx_isi_str, sx_isi_tuple, sx_isi_list, sx_isi_dict, sx_lenL, sx_lenT, atQ_some, sx_ixL, sx_ixT, at0, at1, at2, ixN30, ixN31, ixN32, sx_setIx, sx_set0, sx_set1, sx_set2, sx_slL, sx_slT, sx_tupL, sx_tupT, sx_listL, sx_listT, sx_sortL, sx_sortT, sx_int2, sx_toI, sx_toB, sx_repr, sx_repL, istup_t, istup_l, isint_i, isbool_i, datas_n, datas_c, Option.map_some, mset_same, mset_mset, List.map_cons, List.map_nil, List.length_cons, List.length_nil, List.getElem?_cons_zero, List.getElem?_cons_succ, List.set_cons_zero, List.set_cons_succ, List.replicate, List.cons_append, List.nil_append]
  refine ⟨by decide, ?_⟩
  have e1 : pairOk (tI ns) (.tuple []) = true := pairOk_D (α := PySem.W.Tup Int) (by decide) ⟨ns⟩ ⟨[]⟩
  have e2 : PyData.eqv (tI ns) (.tuple []) = decide ((⟨ns⟩ : PySem.W.Tup Int) = ⟨[]⟩) := PySem.W.Datum.eqv (α := PySem.W.Tup Int) ⟨ns⟩ ⟨[]⟩
  rw [sx_ne, e2]
  refine ⟨e1, ?_⟩
  dsimp only
  by_cases hn : ns = []
  · subst hn
    rw [decide_eq_true rfl, if_neg (by decide)]
    obtain ⟨o, ho, hpo⟩ := hpen
    have := h 0 o hpo (by decide)
    rwa [mset_self ho] at this
  · have hne : (⟨ns⟩ : PySem.W.Tup Int) ≠ ⟨[]⟩ := fun e => hn (by injection e)
    rw [decide_eq_false hne, if_pos (by decide)]
    have hpos : 0 < ns.length := List.length_pos_iff.mpr hn
    have hlen : ns.length ≤ 20 := by
      have hnd : ns.Nodup := hns.1.imp fun h => by omega
      have := sub_len (ys := upTo 20) hnd fun z hz => upTo_mem.mpr (by have := hns.2 z hz; omega)
      have e : (upTo 20).length = 20 := by simp [upTo]
      omega
    refine ⟨a, _, rfl, by simpa using hpos, by simp; omega, hpen, fun k o h0 h1 ho => ?_⟩
    show rIx (.d (tI ns)) (.d (.int k)) (mset m a o) _
    rw [sx_ixT]
    obtain ⟨v, e, hv⟩ := atI_mem (xs := ns.map PyData.int) h0 h1
    obtain ⟨z, hz, rfl⟩ := List.mem_map.mp hv
    rw [e]
    exact h z o ho (by have := hns.2 z hz; omega)
theorem run_op4 {r : DR2} {te : DTE} {σ : DS} {m : MM} {w0 w1 w2 w3 : Option W} {x : W} {Q : DK} (h : te (w0 :: w1 :: w2 :: w3 :: some x :: σ) m fun y m2 => r x y m2 Q) : dOp r (dVar 4) te (w0 :: w1 :: w2 :: w3 :: some x :: σ) m Q := h
theorem run_lstF {ta : DTA} {σ : DS} {m : MM} {Q : DK} (h : ta σ m fun ws m1 => match datas ws with | some ds => ds.length ≤ 16777216 ∧ Q (.d (.list ds)) m1 | none => False) : dLstF ta σ m Q := h
theorem run_cons {te : DTE} {tr : DTA} {σ : DS} {m : MM} {Q : List W → MM → Prop} (h : te σ m fun x m1 => tr σ m1 fun xs m2 => Q (x :: xs) m2) : dCons te tr σ m Q := h
theorem near_last {m : MM} {a : Addr} {l : List PyData} {w1 w2 w3 w5 : Option W} {R : DK} {n : Nat} (hpen : PenAt m a) (g : ∀ d ∈ l, Good d) (hn : l.length ≤ n) (hn2 : n ≤ 16000000) (q : ∀ ds o, (∀ d ∈ ds, Good d) → PenO o → R (.d (.list ds)) (mset m a o)) :
    (dOp rAdd (dVar 4) (dLstF (dCons (dTup (dCons (dRngTup (dRg1 (dC (.int 15)))) (dCons (dTup (dCons (dTup (dCons (dC (.int 14)) (dCons (dC (.int 14)) dNil))) dNil)) dNil))) (dCons (dFn sp_law_odd (dCons (dVar 0) dNil)) (dCons (dFn sp_law_odd (dCons (dVar 0) dNil)) dNil))))) [some (.v (.ref a)), w1, w2, w3, some (.d (.list l)), w5] m R := by
  have h1 : DatE (dTup (dCons (dRngTup (dRg1 (dC (.int 15)))) (dCons (dTup (dCons (dTup (dCons (dC (.int 14)) (dCons (dC (.int 14)) dNil))) dNil)) dNil))) [some (.v (.ref a)), w1, w2, w3, some (.d (.list l)), w5] m 50000 5 := by
    have : ∃ w k, DatE (dTup (dCons (dRngTup (dRg1 (dC (.int 15)))) (dCons (dTup (dCons (dTup (dCons (dC (.int 14)) (dCons (dC (.int 14)) dNil))) dNil)) dNil))) [some (.v (.ref a)), w1, w2, w3, some (.d (.list l)), w5] m w k ∧ w ≤ 50000 ∧ k ≤ 5 :=
      ⟨_, _, by ((repeat' (first | exact DatEA.nil | apply DatEA.cons | exact DatE.int | exact DatE.ofT TupE.rng | apply DatE.tupd)) <;> decide), by decide, by decide⟩
    obtain ⟨w, k, h, hw, hk⟩ := this
    exact fun Q q => h Q fun d hd => q d (hd.le hw hk)
  have good : ∀ d, (∃ w, Sz d w 20 ∧ w ≤ 10000) ∨ d = .dict [] ∨ d = .dict [(.int 0, .int 1)] → Good d := fun d h => h.imp (fun ⟨w, h, hw⟩ => ⟨w, 20, h, by omega, by decide⟩) id
  refine run_op4 (run_lstF (run_cons (h1 _ fun d hd => ?_)))
  refine ⟨a, rfl, hpen, fun d2 o2 h2 ho2 => ⟨a, rfl, .set ho2, fun d3 o3 h3 ho3 => ?_⟩⟩
  have e : mset (mset m a o2) a o3 = mset m a o3 := mset_mset
  show (match datas [.d d, .d d2, .d d3] with | some ds => ds.length ≤ 16777216 ∧ rAdd (.d (.list l)) (.d (.list ds)) (mset (mset m a o2) a o3) R | none => False)
  rw [e]
  refine ⟨by show 3 ≤ 16777216; decide, ?_⟩
  rw [sx_addL]
  refine ⟨by show l.length + 3 ≤ 16777216; omega, q _ o3 (fun x hx => ?_) ho3⟩
  rcases List.mem_append.mp hx with hx | hx
  · exact g x hx
  · simp only [List.mem_cons, List.not_mem_nil, or_false] at hx
    rcases hx with rfl | rfl | rfl
    · exact .inl ⟨_, _, hd, by decide, by decide⟩
    · exact good _ h2
    · exact good _ h3
theorem ct_law_near : ∀ ws m Q E, sp_law_near ws m Q E → rd_law_near (dEnds Q) (startD N_law_near.length ws) m := by
  rintro ws m Q E ⟨a, ns, ps, rfl, hpen, hd, q⟩
  have hC : SzA (ns.map PyData.int) (20 * 41) 0 := SzA.nums (fun z hz => by have := hd.1.2 z hz; omega) (by
    have hn : ns.Nodup := hd.1.1.imp fun h => by omega
    have := sub_len (ys := upTo 20) hn fun z hz => upTo_mem.mpr (by have := hd.1.2 z hz; omega)
    have e : (upTo 20).length = 20 := by simp [upTo]
    omega)
  have hH : SzA (ps.map pr) (400 * 83) 1 := SzA.prs (fun p hp => by
    have h1 := hd.1.2 _ (hd.2.2 p hp).1
    have h2 := hd.1.2 _ (hd.2.2 p hp).2
    omega) (prs_len hd.1.2 hd.2.1 hd.2.2)
  have hD : Sz (.tuple [tI ns, tP ps]) 40000 5 := (Sz.tup (SzA.cons (Sz.tup hC) (SzA.cons (Sz.tup hH) .nil))).le (by decide) (by decide)
  have hO : Sz (.int 0) 40 0 := Sz.int (by decide)
  show rd_law_near (dEnds Q) [some (.v (.ref a)), some (.d (.tuple [tI ns, tP ps])), none, none, none, none] m
  unfold rd_law_near
  refine st_unpack1 ?_
  simp only [List.set_cons_succ, List.set_cons_zero]
  refine st_good (GoodL.ex ⟨_, _, by ((repeat' (first | exact DatEA.nil | apply DatEA.cons | exact DatE.int | exact DatE.non | exact DatE.bl | exact DatE.neg | exact TupE.v2 hC | exact TupE.v3 hH | exact DatE.v1 hD | exact DatE.v5 hO | apply TupE.tup' | apply LstE.lst' | apply TupE.rev | exact TupE.slFrom (TupE.v2 hC) iE_c | exact TupE.slFrom (TupE.v2 hC) iE_neg | exact TupE.slFrom (TupE.v3 hH) iE_c | exact TupE.slFrom (TupE.v3 hH) iE_neg | apply TupE.add' | apply LstE.ofTup | exact TupE.rng | apply DatE.tupd | apply DatE.lstd | apply DatE.lsT | apply DatE.ofT)) <;> decide), by decide, by decide⟩) fun l1 g1 n1 => ?_
  simp only [List.set_cons_succ, List.set_cons_zero]
  refine st_good (GoodL.add (GoodL.v4 g1 n1) (GoodL.ex ⟨_, _, by ((repeat' (first | exact DatEA.nil | apply DatEA.cons | exact DatE.int | exact DatE.non | exact DatE.bl | exact DatE.neg | exact TupE.v2 hC | exact TupE.v3 hH | exact DatE.v1 hD | exact DatE.v5 hO | apply TupE.tup' | apply LstE.lst' | apply TupE.rev | exact TupE.slFrom (TupE.v2 hC) iE_c | exact TupE.slFrom (TupE.v2 hC) iE_neg | exact TupE.slFrom (TupE.v3 hH) iE_c | exact TupE.slFrom (TupE.v3 hH) iE_neg | apply TupE.add' | apply LstE.ofTup | exact TupE.rng | apply DatE.tupd | apply DatE.lstd | apply DatE.lsT | apply DatE.ofT)) <;> decide), by decide, by decide⟩) (by decide)) fun l2 g2 n2 => ?_
  simp only [List.set_cons_succ, List.set_cons_zero]
  refine st_good (GoodL.add (GoodL.v4 g2 n2) (GoodL.ex ⟨_, _, by ((repeat' (first | exact DatEA.nil | apply DatEA.cons | exact DatE.int | exact DatE.non | exact DatE.bl | exact DatE.neg | exact TupE.v2 hC | exact TupE.v3 hH | exact DatE.v1 hD | exact DatE.v5 hO | apply TupE.tup' | apply LstE.lst' | apply TupE.rev | exact TupE.slFrom (TupE.v2 hC) iE_c | exact TupE.slFrom (TupE.v2 hC) iE_neg | exact TupE.slFrom (TupE.v3 hH) iE_c | exact TupE.slFrom (TupE.v3 hH) iE_neg | apply TupE.add' | apply LstE.ofTup | exact TupE.rng | apply DatE.tupd | apply DatE.lstd | apply DatE.lsT | apply DatE.ofT)) <;> decide), by decide, by decide⟩) (by decide)) fun l3 g3 n3 => ?_
  simp only [List.set_cons_succ, List.set_cons_zero]
  refine st_good (GoodL.add (GoodL.v4 g3 n3) (GoodL.ex ⟨_, _, by ((repeat' (first | exact DatEA.nil | apply DatEA.cons | exact DatE.int | exact DatE.non | exact DatE.bl | exact DatE.neg | exact TupE.v2 hC | exact TupE.v3 hH | exact DatE.v1 hD | exact DatE.v5 hO | apply TupE.tup' | apply LstE.lst' | apply TupE.rev | exact TupE.slFrom (TupE.v2 hC) iE_c | exact TupE.slFrom (TupE.v2 hC) iE_neg | exact TupE.slFrom (TupE.v3 hH) iE_c | exact TupE.slFrom (TupE.v3 hH) iE_neg | apply TupE.add' | apply LstE.ofTup | exact TupE.rng | apply DatE.tupd | apply DatE.lstd | apply DatE.lsT | apply DatE.ofT)) <;> decide), by decide, by decide⟩) (by decide)) fun l4 g4 n4 => ?_
  simp only [List.set_cons_succ, List.set_cons_zero]
  refine st_seq (near_one hpen hd.1 fun z o ho hz => ?_)
  have hpen := PenAt.set (m := m) (a := a) ho
  have hO : Sz (.int z) 40 0 := Sz.int hz
  dsimp only
  refine st_good (GoodL.add (GoodL.v4 g4 n4) (GoodL.ex ⟨_, _, by ((repeat' (first | exact DatEA.nil | apply DatEA.cons | exact DatE.int | exact DatE.non | exact DatE.bl | exact DatE.neg | exact TupE.v2 hC | exact TupE.v3 hH | exact DatE.v1 hD | exact DatE.v5 hO | apply TupE.tup' | apply LstE.lst' | apply TupE.rev | exact TupE.slFrom (TupE.v2 hC) iE_c | exact TupE.slFrom (TupE.v2 hC) iE_neg | exact TupE.slFrom (TupE.v3 hH) iE_c | exact TupE.slFrom (TupE.v3 hH) iE_neg | apply TupE.add' | apply LstE.ofTup | exact TupE.rng | apply DatE.tupd | apply DatE.lstd | apply DatE.lsT | apply DatE.ofT)) <;> decide), by decide, by decide⟩) (by decide)) fun l5 g5 n5 => ?_
  simp only [List.set_cons_succ, List.set_cons_zero]
  refine st_good (GoodL.add (GoodL.v4 g5 n5) (GoodL.ex ⟨_, _, by ((repeat' (first | exact DatEA.nil | apply DatEA.cons | exact DatE.int | exact DatE.non | exact DatE.bl | exact DatE.neg | exact TupE.v2 hC | exact TupE.v3 hH | exact DatE.v1 hD | exact DatE.v5 hO | apply TupE.tup' | apply LstE.lst' | apply TupE.rev | exact TupE.slFrom (TupE.v2 hC) iE_c | exact TupE.slFrom (TupE.v2 hC) iE_neg | exact TupE.slFrom (TupE.v3 hH) iE_c | exact TupE.slFrom (TupE.v3 hH) iE_neg | apply TupE.add' | apply LstE.ofTup | exact TupE.rng | apply DatE.tupd | apply DatE.lstd | apply DatE.lsT | apply DatE.ofT)) <;> decide), by decide, by decide⟩) (by decide)) fun l6 g6 n6 => ?_
  simp only [List.set_cons_succ, List.set_cons_zero]
  refine st_ret (near_last hpen g6 n6 (by decide) fun ds o' h ho' => ⟨_, .refl _, ?_⟩)
  rw [mset_mset]
  exact q ds o' h ho'
theorem Sub.newp {m m' : MM} {a : Addr} {o : MO} (h : Sub m m') (n : m' a = none) : Sub m (DL.mset m' a o) := h.trans (.new n)
theorem Sub.pen {m m' : MM} {a : Addr} {o : MO} (h : Sub m m') (n : m a = none) : Sub m (DL.mset m' a o) := fun c x e => by
  have : c ≠ a := fun z => by subst z; rw [n] at e; cases e
  rw [mset_ne this]; exact h c x e
theorem szbb (a b : Bool) : ReprOk (.list [.bool a, .bool b]) := (Sz.lst (SzA.cons (.bool a) (SzA.cons (.bool b) .nil))).repr
theorem ct_law : ∀ ws m Q E, sp_law ws m Q E → rd_law (dEnds Q) (startD N_law.length ws) m := by
  rintro ws m Q E ⟨ns, rfl, q⟩
  simp only [rd_law, dEnds, dC, dV, dOp, dTest, dChain, dAnd, dOr, dNot, dAndV, dOrV, dNotV, dIf, dNil, dCons, dTup, dLst, dLstF, dFrz, dUn, dNoPart, dPart, dSl, dCall, dNext, dSeq, dNever, dRet, dRetN, dExp, dIfS, dAsg, dPar2, dPar3, dRev, dMappend, dMcount, dgName, dgTup, dgCons, dgNil, rMul, rMod, rFdiv, rPow, rLt, rGt, rLe, rGe, rAny, rAll, rMax2, rMin2, rSub, dFn, dDict0, dDict1, dRngTup, dRngLst, dRg1, dRg2, dComp, dFor, diSeq, diRange1, diRange2, diZip, startD, wipeD, dYes, sx_v0, sx_v1, sx_v2, sx_v3, sx_v4, sx_v5, sx_v6, sx_v7, sx_v8, sx_v9, sx_addI, sx_addT, sx_addL, sx_int, sx_int0, sx_neg, sx_eqI, sx_neI, sx_ordI, sx_ordT, sx_inL, sx_inT, sx_isN, sx_isi_int, sx_isi_bool, sx_isi_str, sx_isi_tuple, sx_isi_list, sx_isi_dict, sx_lenL, sx_lenT, atQ_some, sx_ixL, sx_ixT, at0, at1, at2, ixN30, ixN31, ixN32, sx_setIx, sx_set0, sx_set1, sx_set2, sx_slL, sx_slT, sx_tupL, sx_tupT, sx_listL, sx_listT, sx_sortL, sx_sortT, sx_int2, sx_toI, sx_toB, sx_repr, sx_repL, istup_t, istup_l, isint_i, isbool_i, datas_n, datas_c, Option.map_some, mset_same, mset_mset, List.map_cons, List.map_nil, List.length_cons, List.length_nil, List.getElem?_cons_zero, List.getElem?_cons_succ, List.set_cons_zero, List.set_cons_succ, List.replicate, List.cons_append, List.nil_append]
  refine ⟨by split <;> split <;> omega, by split <;> split <;> omega, ?_⟩
  refine forW_inv (fun ws σ m' => Sub m m' ∧ (∃ s1 s2 s3 s4 s5 s6, σ = [some (.d (.list (ns.map PyData.int))), s1, s2, s3, s4, s5, s6]) ∧ ∃ js : List Nat, ws = js.map fun j => W.d (.int (0 + (j : Nat)))) ?_ ?_ _ _ _ ⟨.refl m, ⟨_, _, _, _, _, _, rfl⟩, _, rfl⟩
  · rintro w ws σ m' N ⟨hsub, ⟨s1, s2, s3, s4, s5, s6, rfl⟩, js, hw⟩ hN
    cases js with
    | nil => cases hw
    | cons j js =>
      cases hw
      simp only [dEnds, dC, dV, dOp, dTest, dChain, dAnd, dOr, dNot, dAndV, dOrV, dNotV, dIf, dNil, dCons, dTup, dLst, dLstF, dFrz, dUn, dNoPart, dPart, dSl, dCall, dNext, dSeq, dNever, dRet, dRetN, dExp, dIfS, dAsg, dPar2, dPar3, dRev, dMappend, dMcount, dgName, dgTup, dgCons, dgNil, rMul, rMod, rFdiv, rPow, rLt, rGt, rLe, rGe, rAny, rAll, rMax2, rMin2, rSub, dFn, dDict0, dDict1, dRngTup, dRngLst, dRg1, dRg2, dComp, dFor, diSeq, diRange1, diRange2, diZip, startD, wipeD, dYes, sx_v0, sx_v1, sx_v2, sx_v3, sx_v4, sx_v5, sx_v6, sx_v7, sx_v8, sx_v9, sx_addI, sx_addT, sx_addL, sx_int, sx_int0, sx_neg, sx_eqI, sx_neI, sx_ordI, sx_ordT, sx_inL, sx_inT, sx_isN, sx_isi_int, sx_isi_bool, sx_isi_str, sx_isi_tuple, sx_isi_list, sx_isi_dict, sx_lenL, sx_lenT, atQ_some, sx_ixL, sx_ixT, at0, at1, at2, ixN30, ixN31, ixN32, sx_setIx, sx_set0, sx_set1, sx_set2, sx_slL, sx_slT, sx_tupL, sx_tupT, sx_listL, sx_listT, sx_sortL, sx_sortT, sx_int2, sx_toI, sx_toB, sx_repr, sx_repL, istup_t, istup_l, isint_i, isbool_i, datas_n, datas_c, Option.map_some, mset_same, mset_mset, List.map_cons, List.map_nil, List.length_cons, List.length_nil, List.getElem?_cons_zero, List.getElem?_cons_succ, List.set_cons_zero, List.set_cons_succ, List.replicate, List.cons_append, List.nil_append]
      refine ⟨ns, _, rfl, by omega, fun c => ⟨c, rfl, fun a o hna ho => ?_⟩⟩
      simp only [dEnds, dC, dV, dOp, dTest, dChain, dAnd, dOr, dNot, dAndV, dOrV, dNotV, dIf, dNil, dCons, dTup, dLst, dLstF, dFrz, dUn, dNoPart, dPart, dSl, dCall, dNext, dSeq, dNever, dRet, dRetN, dExp, dIfS, dAsg, dPar2, dPar3, dRev, dMappend, dMcount, dgName, dgTup, dgCons, dgNil, rMul, rMod, rFdiv, rPow, rLt, rGt, rLe, rGe, rAny, rAll, rMax2, rMin2, rSub, dFn, dDict0, dDict1, dRngTup, dRngLst, dRg1, dRg2, dComp, dFor, diSeq, diRange1, diRange2, diZip, startD, wipeD, dYes, sx_v0, sx_v1, sx_v2, sx_v3, sx_v4, sx_v5, sx_v6, sx_v7, sx_v8, sx_v9, sx_addI, sx_addT, sx_addL, sx_int, sx_int0, sx_neg, sx_eqI, sx_neI, sx_ordI, sx_ordT, sx_inL, sx_inT, sx_isN, sx_isi_int, sx_isi_bool, sx_isi_str, sx_isi_tuple, sx_isi_list, sx_isi_dict, sx_lenL, sx_lenT, atQ_some, sx_ixL, sx_ixT, at0, at1, at2, ixN30, ixN31, ixN32, sx_setIx, sx_set0, sx_set1, sx_set2, sx_slL, sx_slT, sx_tupL, sx_tupT, sx_listL, sx_listT, sx_sortL, sx_sortT, sx_int2, sx_toI, sx_toB, sx_repr, sx_repL, istup_t, istup_l, isint_i, isbool_i, datas_n, datas_c, Option.map_some, mset_same, mset_mset, List.map_cons, List.map_nil, List.length_cons, List.length_nil, List.getElem?_cons_zero, List.getElem?_cons_succ, List.set_cons_zero, List.set_cons_succ, List.replicate, List.cons_append, List.nil_append]
      refine ⟨a, 9, rfl, by decide, by decide, .set ho, fun k1 o1 h1 h1' ho1 => ?_⟩
      simp only [dEnds, dC, dV, dOp, dTest, dChain, dAnd, dOr, dNot, dAndV, dOrV, dNotV, dIf, dNil, dCons, dTup, dLst, dLstF, dFrz, dUn, dNoPart, dPart, dSl, dCall, dNext, dSeq, dNever, dRet, dRetN, dExp, dIfS, dAsg, dPar2, dPar3, dRev, dMappend, dMcount, dgName, dgTup, dgCons, dgNil, rMul, rMod, rFdiv, rPow, rLt, rGt, rLe, rGe, rAny, rAll, rMax2, rMin2, rSub, dFn, dDict0, dDict1, dRngTup, dRngLst, dRg1, dRg2, dComp, dFor, diSeq, diRange1, diRange2, diZip, startD, wipeD, dYes, sx_v0, sx_v1, sx_v2, sx_v3, sx_v4, sx_v5, sx_v6, sx_v7, sx_v8, sx_v9, sx_addI, sx_addT, sx_addL, sx_int, sx_int0, sx_neg, sx_eqI, sx_neI, sx_ordI, sx_ordT, sx_inL, sx_inT, sx_isN, sx_isi_int, sx_isi_bool, sx_isi_str, sx_isi_tuple, sx_isi_list, sx_isi_dict, sx_lenL, sx_lenT, atQ_some, sx_ixL, sx_ixT, at0, at1, at2, ixN30, ixN31, ixN32, sx_setIx, sx_set0, sx_set1, sx_set2, sx_slL, sx_slT, sx_tupL, sx_tupT, sx_listL, sx_listT, sx_sortL, sx_sortT, sx_int2, sx_toI, sx_toB, sx_repr, sx_repL, istup_t, istup_l, isint_i, isbool_i, datas_n, datas_c, Option.map_some, mset_same, mset_mset, List.map_cons, List.map_nil, List.length_cons, List.length_nil, List.getElem?_cons_zero, List.getElem?_cons_succ, List.set_cons_zero, List.set_cons_succ, List.replicate, List.cons_append, List.nil_append]
      refine ⟨a, 4, rfl, by decide, by decide, .set ho1, fun k2 o2 h2 h2' ho2 => ?_⟩
      simp only [dEnds, dC, dV, dOp, dTest, dChain, dAnd, dOr, dNot, dAndV, dOrV, dNotV, dIf, dNil, dCons, dTup, dLst, dLstF, dFrz, dUn, dNoPart, dPart, dSl, dCall, dNext, dSeq, dNever, dRet, dRetN, dExp, dIfS, dAsg, dPar2, dPar3, dRev, dMappend, dMcount, dgName, dgTup, dgCons, dgNil, rMul, rMod, rFdiv, rPow, rLt, rGt, rLe, rGe, rAny, rAll, rMax2, rMin2, rSub, dFn, dDict0, dDict1, dRngTup, dRngLst, dRg1, dRg2, dComp, dFor, diSeq, diRange1, diRange2, diZip, startD, wipeD, dYes, sx_v0, sx_v1, sx_v2, sx_v3, sx_v4, sx_v5, sx_v6, sx_v7, sx_v8, sx_v9, sx_addI, sx_addT, sx_addL, sx_int, sx_int0, sx_neg, sx_eqI, sx_neI, sx_ordI, sx_ordT, sx_inL, sx_inT, sx_isN, sx_isi_int, sx_isi_bool, sx_isi_str, sx_isi_tuple, sx_isi_list, sx_isi_dict, sx_lenL, sx_lenT, atQ_some, sx_ixL, sx_ixT, at0, at1, at2, ixN30, ixN31, ixN32, sx_setIx, sx_set0, sx_set1, sx_set2, sx_slL, sx_slT, sx_tupL, sx_tupT, sx_listL, sx_listT, sx_sortL, sx_sortT, sx_int2, sx_toI, sx_toB, sx_repr, sx_repL, istup_t, istup_l, isint_i, isbool_i, datas_n, datas_c, Option.map_some, mset_same, mset_mset, List.map_cons, List.map_nil, List.length_cons, List.length_nil, List.getElem?_cons_zero, List.getElem?_cons_succ, List.set_cons_zero, List.set_cons_succ, List.replicate, List.cons_append, List.nil_append]
      refine ⟨by decide, ?_⟩
      have hma : m a = none := by
        cases e : m a with
        | none => rfl
        | some x => rw [hsub a x e] at hna; cases hna
      have hs2 : Sub m (mset m' a o2) := hsub.newp hna
      have hp2 : PenAt (mset m' a o2) a := .set ho2
      generalize mset m' a o2 = m0 at hs2 hp2 ⊢
      refine forW_inv (fun ws σ m' => Sub m m' ∧ PenAt m' a ∧ (∃ s3 s4 s5 s6, σ = [some (.d (.list (ns.map PyData.int))), some (.d (.int (0 + (j : Nat)))), some (.v (.ref a)), s3, s4, s5, s6]) ∧ ∃ ks : List Int, ws = ks.map (fun k => W.d (.int k)) ∧ ∀ k ∈ ks, 0 ≤ k ∧ k ≤ 15) ?_ ?_ _ _ _
        ⟨hs2, hp2, ⟨_, _, _, _, rfl⟩, [k1, k2, 15], rfl, by simp; omega⟩
      · rintro w ws σ m' N2 ⟨hsub, hpen, ⟨s3, s4, s5, s6, rfl⟩, ks, hw, hks⟩ hN2
        cases ks with
        | nil => cases hw
        | cons k ks =>
          cases hw
          have hk := hks k (by simp)
          simp only [dEnds, dC, dV, dOp, dTest, dChain, dAnd, dOr, dNot, dAndV, dOrV, dNotV, dIf, dNil, dCons, dTup, dLst, dLstF, dFrz, dUn, dNoPart, dPart, dSl, dCall, dNext, dSeq, dNever, dRet, dRetN, dExp, dIfS, dAsg, dPar2, dPar3, dRev, dMappend, dMcount, dgName, dgTup, dgCons, dgNil, rMul, rMod, rFdiv, rPow, rLt, rGt, rLe, rGe, rAny, rAll, rMax2, rMin2, rSub, dFn, dDict0, dDict1, dRngTup, dRngLst, dRg1, dRg2, dComp, dFor, diSeq, diRange1, diRange2, diZip, startD, wipeD, dYes, sx_v0, sx_v1, sx_v2, sx_v3, sx_v4, sx_v5, sx_v6, sx_v7, sx_v8, sx_v9, sx_addI, sx_addT, sx_addL, sx_int, sx_int0, sx_neg, sx_eqI, sx_neI, sx_ordI, sx_ordT, sx_inL, sx_inT, sx_isN, sx_isi_int, sx_isi_bool, sx_isi_str, sx_isi_tuple, sx_isi_list, sx_isi_dict, sx_lenL, sx_lenT, atQ_some, sx_ixL, sx_ixT, at0, at1, at2, ixN30, ixN31, ixN32, sx_setIx, sx_set0, sx_set1, sx_set2, sx_slL, sx_slT, sx_tupL, sx_tupT, sx_listL, sx_listT, sx_sortL, sx_sortT, sx_int2, sx_toI, sx_toB, sx_repr, sx_repL, istup_t, istup_l, isint_i, isbool_i, datas_n, datas_c, Option.map_some, mset_same, mset_mset, List.map_cons, List.map_nil, List.length_cons, List.length_nil, List.getElem?_cons_zero, List.getElem?_cons_succ, List.set_cons_zero, List.set_cons_succ, List.replicate, List.cons_append, List.nil_append]
          refine ⟨a, k, rfl, by omega, hpen, fun cr hits o hdeb _ ho => ⟨a, cr, hits, rfl, .set ho, hdeb, fun ds o' hds ho' => ?_⟩⟩
          simp only [dEnds, dC, dV, dOp, dTest, dChain, dAnd, dOr, dNot, dAndV, dOrV, dNotV, dIf, dNil, dCons, dTup, dLst, dLstF, dFrz, dUn, dNoPart, dPart, dSl, dCall, dNext, dSeq, dNever, dRet, dRetN, dExp, dIfS, dAsg, dPar2, dPar3, dRev, dMappend, dMcount, dgName, dgTup, dgCons, dgNil, rMul, rMod, rFdiv, rPow, rLt, rGt, rLe, rGe, rAny, rAll, rMax2, rMin2, rSub, dFn, dDict0, dDict1, dRngTup, dRngLst, dRg1, dRg2, dComp, dFor, diSeq, diRange1, diRange2, diZip, startD, wipeD, dYes, sx_v0, sx_v1, sx_v2, sx_v3, sx_v4, sx_v5, sx_v6, sx_v7, sx_v8, sx_v9, sx_addI, sx_addT, sx_addL, sx_int, sx_int0, sx_neg, sx_eqI, sx_neI, sx_ordI, sx_ordT, sx_inL, sx_inT, sx_isN, sx_isi_int, sx_isi_bool, sx_isi_str, sx_isi_tuple, sx_isi_list, sx_isi_dict, sx_lenL, sx_lenT, atQ_some, sx_ixL, sx_ixT, at0, at1, at2, ixN30, ixN31, ixN32, sx_setIx, sx_set0, sx_set1, sx_set2, sx_slL, sx_slT, sx_tupL, sx_tupT, sx_listL, sx_listT, sx_sortL, sx_sortT, sx_int2, sx_toI, sx_toB, sx_repr, sx_repL, istup_t, istup_l, isint_i, isbool_i, datas_n, datas_c, Option.map_some, mset_same, mset_mset, List.map_cons, List.map_nil, List.length_cons, List.length_nil, List.getElem?_cons_zero, List.getElem?_cons_succ, List.set_cons_zero, List.set_cons_succ, List.replicate, List.cons_append, List.nil_append]
          have hs3 : Sub m (mset m' a o') := hsub.pen hma
          have hp3 : PenAt (mset m' a o') a := .set ho'
          generalize mset m' a o' = m1 at hs3 hp3 ⊢
          refine forW_inv (fun ws σ m' => Sub m m' ∧ PenAt m' a ∧ (∃ s4 s5 s6, σ = [some (.d (.list (ns.map PyData.int))), some (.d (.int (0 + (j : Nat)))), some (.v (.ref a)), some (.d (.int k)), s4, s5, s6]) ∧ ∃ ds : List PyData, ws = ds.map W.d ∧ ∀ d ∈ ds, Good d) ?_ ?_ _ _ _
            ⟨hs3, hp3, ⟨_, _, _, rfl⟩, ds, rfl, hds⟩
          · rintro w ws σ m' N3 ⟨hsub, hpen, ⟨s4, s5, s6, rfl⟩, ds, hw, hds⟩ hN3
            cases ds with
            | nil => cases hw
            | cons d ds =>
              cases hw
              have hd := hds d (by simp)
              simp only [dEnds, dC, dV, dOp, dTest, dChain, dAnd, dOr, dNot, dAndV, dOrV, dNotV, dIf, dNil, dCons, dTup, dLst, dLstF, dFrz, dUn, dNoPart, dPart, dSl, dCall, dNext, dSeq, dNever, dRet, dRetN, dExp, dIfS, dAsg, dPar2, dPar3, dRev, dMappend, dMcount, dgName, dgTup, dgCons, dgNil, rMul, rMod, rFdiv, rPow, rLt, rGt, rLe, rGe, rAny, rAll, rMax2, rMin2, rSub, dFn, dDict0, dDict1, dRngTup, dRngLst, dRg1, dRg2, dComp, dFor, diSeq, diRange1, diRange2, diZip, startD, wipeD, dYes, sx_v0, sx_v1, sx_v2, sx_v3, sx_v4, sx_v5, sx_v6, sx_v7, sx_v8, sx_v9, sx_addI, sx_addT, sx_addL, sx_int, sx_int0, sx_neg, sx_eqI, sx_neI, sx_ordI, sx_ordT, sx_inL, sx_inT, sx_isN, sx_isi_int, sx_isi_bool, sx_isi_str, sx_isi_tuple, sx_isi_list, sx_isi_dict, sx_lenL, sx_lenT, atQ_some, sx_ixL, sx_ixT, at0, at1, at2, ixN30, ixN31, ixN32, sx_setIx, sx_set0, sx_set1, sx_set2, sx_slL, sx_slT, sx_tupL, sx_tupT, sx_listL, sx_listT, sx_sortL, sx_sortT, sx_int2, sx_toI, sx_toB, sx_repr, sx_repL, istup_t, istup_l, isint_i, isbool_i, datas_n, datas_c, Option.map_some, mset_same, mset_mset, List.map_cons, List.map_nil, List.length_cons, List.length_nil, List.getElem?_cons_zero, List.getElem?_cons_succ, List.set_cons_zero, List.set_cons_succ, List.replicate, List.cons_append, List.nil_append]
              refine ⟨hd.repr, d, rfl, hd.len, ?_⟩
              simp only [dEnds, dC, dV, dOp, dTest, dChain, dAnd, dOr, dNot, dAndV, dOrV, dNotV, dIf, dNil, dCons, dTup, dLst, dLstF, dFrz, dUn, dNoPart, dPart, dSl, dCall, dNext, dSeq, dNever, dRet, dRetN, dExp, dIfS, dAsg, dPar2, dPar3, dRev, dMappend, dMcount, dgName, dgTup, dgCons, dgNil, rMul, rMod, rFdiv, rPow, rLt, rGt, rLe, rGe, rAny, rAll, rMax2, rMin2, rSub, dFn, dDict0, dDict1, dRngTup, dRngLst, dRg1, dRg2, dComp, dFor, diSeq, diRange1, diRange2, diZip, startD, wipeD, dYes, sx_v0, sx_v1, sx_v2, sx_v3, sx_v4, sx_v5, sx_v6, sx_v7, sx_v8, sx_v9, sx_addI, sx_addT, sx_addL, sx_int, sx_int0, sx_neg, sx_eqI, sx_neI, sx_ordI, sx_ordT, sx_inL, sx_inT, sx_isN, sx_isi_int, sx_isi_bool, sx_isi_str, sx_isi_tuple, sx_isi_list, sx_isi_dict, sx_lenL, sx_lenT, atQ_some, sx_ixL, sx_ixT, at0, at1, at2, ixN30, ixN31, ixN32, sx_setIx, sx_set0, sx_set1, sx_set2, sx_slL, sx_slT, sx_tupL, sx_tupT, sx_listL, sx_listT, sx_sortL, sx_sortT, sx_int2, sx_toI, sx_toB, sx_repr, sx_repL, istup_t, istup_l, isint_i, isbool_i, datas_n, datas_c, Option.map_some, mset_same, mset_mset, List.map_cons, List.map_nil, List.length_cons, List.length_nil, List.getElem?_cons_zero, List.getElem?_cons_succ, List.set_cons_zero, List.set_cons_succ, List.replicate, List.cons_append, List.nil_append]
              refine ⟨d, rfl, d, rfl, ?_⟩
              simp only [dEnds, dC, dV, dOp, dTest, dChain, dAnd, dOr, dNot, dAndV, dOrV, dNotV, dIf, dNil, dCons, dTup, dLst, dLstF, dFrz, dUn, dNoPart, dPart, dSl, dCall, dNext, dSeq, dNever, dRet, dRetN, dExp, dIfS, dAsg, dPar2, dPar3, dRev, dMappend, dMcount, dgName, dgTup, dgCons, dgNil, rMul, rMod, rFdiv, rPow, rLt, rGt, rLe, rGe, rAny, rAll, rMax2, rMin2, rSub, dFn, dDict0, dDict1, dRngTup, dRngLst, dRg1, dRg2, dComp, dFor, diSeq, diRange1, diRange2, diZip, startD, wipeD, dYes, sx_v0, sx_v1, sx_v2, sx_v3, sx_v4, sx_v5, sx_v6, sx_v7, sx_v8, sx_v9, sx_addI, sx_addT, sx_addL, sx_int, sx_int0, sx_neg, sx_eqI, sx_neI, sx_ordI, sx_ordT, sx_inL, sx_inT, sx_isN, sx_isi_int, sx_isi_bool, sx_isi_str, sx_isi_tuple, sx_isi_list, sx_isi_dict, sx_lenL, sx_lenT, atQ_some, sx_ixL, sx_ixT, at0, at1, at2, ixN30, ixN31, ixN32, sx_setIx, sx_set0, sx_set1, sx_set2, sx_slL, sx_slT, sx_tupL, sx_tupT, sx_listL, sx_listT, sx_sortL, sx_sortT, sx_int2, sx_toI, sx_toB, sx_repr, sx_repL, istup_t, istup_l, isint_i, isbool_i, datas_n, datas_c, Option.map_some, mset_same, mset_mset, List.map_cons, List.map_nil, List.length_cons, List.length_nil, List.getElem?_cons_zero, List.getElem?_cons_succ, List.set_cons_zero, List.set_cons_succ, List.replicate, List.cons_append, List.nil_append]
              refine ⟨by decide, by decide, _, _, rfl, szbb _ _, szbb _ _, ?_⟩
              rw [decide_eq_true rfl]
              simp only [dEnds, dC, dV, dOp, dTest, dChain, dAnd, dOr, dNot, dAndV, dOrV, dNotV, dIf, dNil, dCons, dTup, dLst, dLstF, dFrz, dUn, dNoPart, dPart, dSl, dCall, dNext, dSeq, dNever, dRet, dRetN, dExp, dIfS, dAsg, dPar2, dPar3, dRev, dMappend, dMcount, dgName, dgTup, dgCons, dgNil, rMul, rMod, rFdiv, rPow, rLt, rGt, rLe, rGe, rAny, rAll, rMax2, rMin2, rSub, dFn, dDict0, dDict1, dRngTup, dRngLst, dRg1, dRg2, dComp, dFor, diSeq, diRange1, diRange2, diZip, startD, wipeD, dYes, sx_v0, sx_v1, sx_v2, sx_v3, sx_v4, sx_v5, sx_v6, sx_v7, sx_v8, sx_v9, sx_addI, sx_addT, sx_addL, sx_int, sx_int0, sx_neg, sx_eqI, sx_neI, sx_ordI, sx_ordT, sx_inL, sx_inT, sx_isN, sx_isi_int, sx_isi_bool, sx_isi_str, sx_isi_tuple, sx_isi_list, sx_isi_dict, sx_lenL, sx_lenT, atQ_some, sx_ixL, sx_ixT, at0, at1, at2, ixN30, ixN31, ixN32, sx_setIx, sx_set0, sx_set1, sx_set2, sx_slL, sx_slT, sx_tupL, sx_tupT, sx_listL, sx_listT, sx_sortL, sx_sortT, sx_int2, sx_toI, sx_toB, sx_repr, sx_repL, istup_t, istup_l, isint_i, isbool_i, datas_n, datas_c, Option.map_some, mset_same, mset_mset, List.map_cons, List.map_nil, List.length_cons, List.length_nil, List.getElem?_cons_zero, List.getElem?_cons_succ, List.set_cons_zero, List.set_cons_succ, List.replicate, List.cons_append, List.nil_append, Bool.not_true, Bool.false_eq_true, if_false]
              refine ⟨hd.repr, ?_⟩
              rw [sx_ne]
              have e1 : pairOk (.str d.shown) (.str d.shown) = true := by simp [pairOk, PyData.plain, PyData.depth]
              have e2 : PyData.eqv (.str d.shown) (.str d.shown) = true := by simp [PyData.eqv]
              rw [e2]
              refine ⟨e1, ?_⟩
              simp only [Bool.not_true, Bool.false_eq_true, if_false]
              exact hN3 _ _ ⟨hsub, hpen, ⟨_, _, _, rfl⟩, ds, rfl, fun x hx => hds x (by simp [hx])⟩
          · rintro σ m' ⟨hsub, hpen, ⟨s4, s5, s6, rfl⟩, ds, hw, hds⟩
            exact hN2 _ _ ⟨hsub, hpen, ⟨_, _, _, _, rfl⟩, ks, rfl, fun x hx => hks x (by simp [hx])⟩
      · rintro σ m' ⟨hsub, hpen, ⟨s3, s4, s5, s6, rfl⟩, ks, hw, hks⟩
        exact hN _ _ ⟨hsub, ⟨_, _, _, _, _, _, rfl⟩, js, rfl⟩
  · rintro σ m' ⟨hsub, ⟨s1, s2, s3, s4, s5, s6, rfl⟩, js, hw⟩
    exact ⟨m, hsub, q⟩
end DL
end
section
namespace LawK
open DL PySem PySem.Spec L2
open PyProof.Rows hiding St
set_option maxHeartbeats 4000000
abbrev topS (i : Nat) : Stmt := PySem.Challenge.pw_standsets_k01_debates_recognized.main.body.getD i (.Pass ⟨0, 0, 0, 0⟩)
abbrev s__law_pen : Stmt := topS 13
theorem sc__law_pen : FnScope N_law_pen ["_law_cell_here"] (defScope s__law_pen) := ⟨rfl, rfl, rfl, by decide +kernel, rfl, by decide +kernel, by decide +kernel⟩
theorem dv__law_pen {P : Program} {w : World} {K : PySem.W.Frag} {mg : Str → Option Value} {base : Heap} {fa : Addr} (z_max : mg "max" = none) (cdv : Value) (A : Around) (outer : List Env) (s : Shared) (H : Hp) (E : XK)
    (hr : Room 0 (A.deeper (envOfC "_law_pen" (defScope s__law_pen) s.heap.objs.size fa cdv))) (hg : A.guards = some []) : DSs (cxOf CX0 P w K mg base N_law_pen "_law_pen" (defScope s__law_pen) fa cdv A outer s H E).nox (defBody s__law_pen) rd_law_pen := by
  have sc := sc__law_pen
  have hu := room_hu hr
  exact (dss_one (dst_ret (de_lst (da_cons (de_callB (dc_max2 rfl) (by rfl) z_max bt_max (da_cons de_int (da_cons (de_op do_sub (de_var (i := 0) rfl (by first | exact Or.inl rfl | exact Or.inr (Or.inl rfl) | exact Or.inr (Or.inr rfl) | exact Or.inr rfl)) (de_op do_pow de_int de_int)) da_nil))) (da_cons (de_op do_add (de_op do_mod (de_var (i := 0) rfl (by first | exact Or.inl rfl | exact Or.inr (Or.inl rfl) | exact Or.inr (Or.inr rfl) | exact Or.inr rfl)) de_int) de_int) (da_cons de_int da_nil))))))
abbrev s__law_cell : Stmt := topS 12
theorem sc__law_cell : FnScope N_law_cell ["_law_script", "_law_k"] (defScope s__law_cell) := ⟨rfl, rfl, rfl, by decide +kernel, rfl, by decide +kernel, by decide +kernel⟩
theorem dv__law_cell {P : Program} {w : World} {K : PySem.W.Frag} {mg : Str → Option Value} {base : Heap} {fa : Addr} (z_len : mg "len" = none) (cdv : Value) (A : Around) (outer : List Env) (s : Shared) (H : Hp) (E : XK)
    (hr : Room 0 (A.deeper (envOfC "_law_cell" (defScope s__law_cell) s.heap.objs.size fa cdv))) (hg : A.guards = some []) : DSs (cxOf CX0 P w K mg base N_law_cell "_law_cell" (defScope s__law_cell) fa cdv A outer s H E).nox (defBody s__law_cell) rd_law_cell := by
  have sc := sc__law_cell
  have hu := room_hu hr
  exact (dss_one (dst_ret (de_if (dt_cmp (do_lt hu) (de_var (i := 1) rfl (by first | exact Or.inl rfl | exact Or.inr (Or.inl rfl) | exact Or.inr (Or.inr rfl) | exact Or.inr rfl)) (de_callB dc_len (by rfl) z_len bt_len (da_cons (de_var (i := 0) rfl (by first | exact Or.inl rfl | exact Or.inr (Or.inl rfl) | exact Or.inr (Or.inr rfl) | exact Or.inr rfl)) da_nil)) (nomark _)) (de_ix (de_var (i := 0) rfl (by first | exact Or.inl rfl | exact Or.inr (Or.inl rfl) | exact Or.inr (Or.inr rfl) | exact Or.inr rfl)) (de_var (i := 1) rfl (by first | exact Or.inl rfl | exact Or.inr (Or.inl rfl) | exact Or.inr (Or.inr rfl) | exact Or.inr rfl))) de_int)))
abbrev s__law_draw : Stmt := topS 14
theorem sc__law_draw : FnScope N_law_draw ["_law_pen_here", "_law_many"] (defScope s__law_draw) := ⟨rfl, rfl, rfl, by decide +kernel, rfl, by decide +kernel, by decide +kernel⟩
theorem dv__law_draw {P : Program} {w : World} {K : PySem.W.Frag} {mg : Str → Option Value} {base : Heap} {fa : Addr} (cdv : Value) (A : Around) (outer : List Env) (s : Shared) (H : Hp) (E : XK)
    (hr : Room 0 (A.deeper (envOfC "_law_draw" (defScope s__law_draw) s.heap.objs.size fa cdv))) (hg : A.guards = some []) : DSs (cxOf CX0 P w K mg base N_law_draw "_law_draw" (defScope s__law_draw) fa cdv A outer s H E).nox (defBody s__law_draw) rd_law_draw := by
  have sc := sc__law_draw
  have hu := room_hu hr
  exact (dss_cons (dst_if (dt_cmp (do_gt hu) (de_ix (de_var (i := 0) rfl (by first | exact Or.inl rfl | exact Or.inr (Or.inl rfl) | exact Or.inr (Or.inr rfl) | exact Or.inr rfl)) de_int) de_int (nomark _)) (dss_cons (dst_set (i := 2) sc.nd rfl (.inl rfl) (de_op do_mod (de_ix (de_var (i := 0) rfl (by first | exact Or.inl rfl | exact Or.inr (Or.inl rfl) | exact Or.inr (Or.inr rfl) | exact Or.inr rfl)) de_int) (de_var (i := 1) rfl (by first | exact Or.inl rfl | exact Or.inr (Or.inl rfl) | exact Or.inr (Or.inr rfl) | exact Or.inr rfl))))
    (dss_cons (dst_setIx (de_op do_fdiv (de_ix (de_var (i := 0) rfl (by first | exact Or.inl rfl | exact Or.inr (Or.inl rfl) | exact Or.inr (Or.inr rfl) | exact Or.inr rfl)) de_int) (de_var (i := 1) rfl (by first | exact Or.inl rfl | exact Or.inr (Or.inl rfl) | exact Or.inr (Or.inr rfl) | exact Or.inr rfl))) (pg_sub (de_var (i := 0) rfl (by first | exact Or.inl rfl | exact Or.inr (Or.inl rfl) | exact Or.inr (Or.inr rfl) | exact Or.inr rfl)) de_int set_list))
    (dss_one (dst_ret (de_var (i := 2) rfl (by first | exact Or.inl rfl | exact Or.inr (Or.inl rfl) | exact Or.inr (Or.inr rfl) | exact Or.inr rfl)))))) dss_nil)
    (dss_cons (dst_setIx (de_op do_add (de_ix (de_var (i := 0) rfl (by first | exact Or.inl rfl | exact Or.inr (Or.inl rfl) | exact Or.inr (Or.inr rfl) | exact Or.inr rfl)) de_int) de_int) (pg_sub (de_var (i := 0) rfl (by first | exact Or.inl rfl | exact Or.inr (Or.inl rfl) | exact Or.inr (Or.inr rfl) | exact Or.inr rfl)) de_int set_list))
    (dss_cons (dst_setIx (de_op do_mod (de_op do_add (de_op do_add (de_op do_mul (de_ix (de_var (i := 0) rfl (by first | exact Or.inl rfl | exact Or.inr (Or.inl rfl) | exact Or.inr (Or.inr rfl) | exact Or.inr rfl)) de_int) de_int) (de_op do_mul de_int (de_ix (de_var (i := 0) rfl (by first | exact Or.inl rfl | exact Or.inr (Or.inl rfl) | exact Or.inr (Or.inr rfl) | exact Or.inr rfl)) de_int))) de_int) de_int) (pg_sub (de_var (i := 0) rfl (by first | exact Or.inl rfl | exact Or.inr (Or.inl rfl) | exact Or.inr (Or.inr rfl) | exact Or.inr rfl)) de_int set_list))
    (dss_cons (dst_set (i := 3) sc.nd rfl (.inl rfl) (de_op do_mod (de_op do_add (de_op do_add (de_op do_mul (de_ix (de_var (i := 0) rfl (by first | exact Or.inl rfl | exact Or.inr (Or.inl rfl) | exact Or.inr (Or.inr rfl) | exact Or.inr rfl)) de_int) (de_ix (de_var (i := 0) rfl (by first | exact Or.inl rfl | exact Or.inr (Or.inl rfl) | exact Or.inr (Or.inr rfl) | exact Or.inr rfl)) de_int)) (de_op do_mul de_int (de_ix (de_var (i := 0) rfl (by first | exact Or.inl rfl | exact Or.inr (Or.inl rfl) | exact Or.inr (Or.inr rfl) | exact Or.inr rfl)) de_int))) de_int) de_int))
    (dss_cons (dst_set (i := 3) sc.nd rfl (.inl rfl) (de_op do_mod (de_op do_add (de_op do_mul (de_var (i := 3) rfl (by first | exact Or.inl rfl | exact Or.inr (Or.inl rfl) | exact Or.inr (Or.inr rfl) | exact Or.inr rfl)) (de_var (i := 3) rfl (by first | exact Or.inl rfl | exact Or.inr (Or.inl rfl) | exact Or.inr (Or.inr rfl) | exact Or.inr rfl))) (de_op do_mul de_int (de_var (i := 3) rfl (by first | exact Or.inl rfl | exact Or.inr (Or.inl rfl) | exact Or.inr (Or.inr rfl) | exact Or.inr rfl)))) de_int))
    (dss_one (dst_ret (de_op do_mod (de_op do_fdiv (de_var (i := 3) rfl (by first | exact Or.inl rfl | exact Or.inr (Or.inl rfl) | exact Or.inr (Or.inr rfl) | exact Or.inr rfl)) de_int) (de_var (i := 1) rfl (by first | exact Or.inl rfl | exact Or.inr (Or.inl rfl) | exact Or.inr (Or.inr rfl) | exact Or.inr rfl))))))))))
abbrev s__law_odd : Stmt := topS 21
theorem sc__law_odd : FnScope N_law_odd ["_law_pen_here"] (defScope s__law_odd) := ⟨rfl, rfl, rfl, by decide +kernel, rfl, by decide +kernel, by decide +kernel⟩
theorem dv__law_odd {P : Program} {w : World} {K : PySem.W.Frag} {mg : Str → Option Value} {base : Heap} {fa : Addr} (G__law_draw : DFn P w K mg base CX0 1 "_law_draw" sp_law_draw) (cdv : Value) (A : Around) (outer : List Env) (s : Shared) (H : Hp) (E : XK)
    (hr : Room 1 (A.deeper (envOfC "_law_odd" (defScope s__law_odd) s.heap.objs.size fa cdv))) (hg : A.guards = some []) : DSs (cxOf CX0 P w K mg base N_law_odd "_law_odd" (defScope s__law_odd) fa cdv A outer s H E).nox (defBody s__law_odd) rd_law_odd := by
  have sc := sc__law_odd
  have hu := room_hu hr
  exact (dss_cons (dst_set (i := 1) sc.nd rfl (.inl rfl) (de_lstF (da_cons de_non (da_cons de_bl (da_cons de_bl (da_cons de_int (da_cons de_int (da_cons (de_neg de_int) (da_cons de_int (da_cons (de_op do_pow de_int de_int) (da_cons de_str (da_cons de_str (da_cons de_str (da_cons (de_tup da_nil) (da_cons (de_lstF da_nil) (da_cons de_dict0 (da_cons (de_tup (da_cons de_int da_nil)) (da_cons (de_lstF (da_cons de_int da_nil)) (da_cons (de_tup (da_cons de_bl da_nil)) (da_cons (de_tup (da_cons de_non da_nil)) da_nil))))))))))))))))))))
    (dss_cons (dst_set (i := 1) sc.nd rfl (.inl rfl) (de_op do_add (de_var (i := 1) rfl (by first | exact Or.inl rfl | exact Or.inr (Or.inl rfl) | exact Or.inr (Or.inr rfl) | exact Or.inr rfl)) (de_lstF (da_cons (de_tup (da_cons (de_tup da_nil) (da_cons (de_tup da_nil) da_nil))) (da_cons (de_tup (da_cons (de_tup (da_cons de_int da_nil)) (da_cons (de_tup da_nil) da_nil))) (da_cons (de_tup (da_cons (de_tup (da_cons de_int da_nil)) (da_cons (de_tup (da_cons (de_tup (da_cons de_int (da_cons de_int da_nil))) da_nil)) da_nil))) (da_cons (de_tup (da_cons de_int (da_cons de_int da_nil))) (da_cons (de_tup (da_cons (de_tup (da_cons de_int (da_cons de_int da_nil))) da_nil)) (da_cons (de_dict1 de_int) (da_cons (de_tup (da_cons (de_tup (da_cons de_int da_nil)) (da_cons (de_lstF (da_cons (de_tup (da_cons de_int (da_cons de_int da_nil))) da_nil)) da_nil))) da_nil))))))))))
    (dss_one (dst_ret (de_ix (de_var (i := 1) rfl (by first | exact Or.inl rfl | exact Or.inr (Or.inl rfl) | exact Or.inr (Or.inr rfl) | exact Or.inr rfl)) (de_fn G__law_draw hg (hr.mono (by decide)) (by rfl) (da_cons (de_var (i := 0) rfl (by first | exact Or.inl rfl | exact Or.inr (Or.inl rfl) | exact Or.inr (Or.inr rfl) | exact Or.inr rfl)) (da_cons de_int da_nil))))))))
abbrev s__law_near : Stmt := topS 22
theorem sc__law_near : FnScope N_law_near ["_law_pen_here", "_law_debate_here"] (defScope s__law_near) := ⟨rfl, rfl, rfl, by decide +kernel, rfl, by decide +kernel, by decide +kernel⟩
theorem dv__law_near {P : Program} {w : World} {K : PySem.W.Frag} {mg : Str → Option Value} {base : Heap} {fa : Addr} (z_list : mg "list" = none) (z_len : mg "len" = none) (z_range : mg "range" = none) (z_tuple : mg "tuple" = none) (G__law_draw : DFn P w K mg base CX0 1 "_law_draw" sp_law_draw) (G__law_odd : DFn P w K mg base CX0 2 "_law_odd" sp_law_odd) (cdv : Value) (A : Around) (outer : List Env) (s : Shared) (H : Hp) (E : XK)
    (hr : Room 2 (A.deeper (envOfC "_law_near" (defScope s__law_near) s.heap.objs.size fa cdv))) (hg : A.guards = some []) : DSs (cxOf CX0 P w K mg base N_law_near "_law_near" (defScope s__law_near) fa cdv A outer s H E).nox (defBody s__law_near) rd_law_near := by
  have sc := sc__law_near
  have hu := room_hu hr
  exact (dss_cons (dst_asg (de_var (i := 1) rfl (by first | exact Or.inl rfl | exact Or.inr (Or.inl rfl) | exact Or.inr (Or.inr rfl) | exact Or.inr rfl)) (dg_tup rfl (dgs_cons (dg_name (i := 2) sc.nd rfl (.inl rfl)) (dgs_cons (dg_name (i := 3) sc.nd rfl (.inl rfl)) dgs_nil))))
    (dss_cons (dst_set (i := 4) sc.nd rfl (.inl rfl) (de_lstF (da_cons (de_var (i := 1) rfl (by first | exact Or.inl rfl | exact Or.inr (Or.inl rfl) | exact Or.inr (Or.inr rfl) | exact Or.inr rfl)) (da_cons (de_tup (da_cons (de_var (i := 2) rfl (by first | exact Or.inl rfl | exact Or.inr (Or.inl rfl) | exact Or.inr (Or.inr rfl) | exact Or.inr rfl)) (da_cons (de_rev (de_var (i := 3) rfl (by first | exact Or.inl rfl | exact Or.inr (Or.inl rfl) | exact Or.inr (Or.inr rfl) | exact Or.inr rfl))) da_nil))) (da_cons (de_tup (da_cons (de_var (i := 2) rfl (by first | exact Or.inl rfl | exact Or.inr (Or.inl rfl) | exact Or.inr (Or.inr rfl) | exact Or.inr rfl)) (da_cons (de_op do_add (de_var (i := 3) rfl (by first | exact Or.inl rfl | exact Or.inr (Or.inl rfl) | exact Or.inr (Or.inr rfl) | exact Or.inr rfl)) (de_slice (de_var (i := 3) rfl (by first | exact Or.inl rfl | exact Or.inr (Or.inl rfl) | exact Or.inr (Or.inr rfl) | exact Or.inr rfl)) (dp_some (de_neg de_int)) dp_none)) da_nil))) (da_cons (de_tup (da_cons (de_rev (de_var (i := 2) rfl (by first | exact Or.inl rfl | exact Or.inr (Or.inl rfl) | exact Or.inr (Or.inr rfl) | exact Or.inr rfl))) (da_cons (de_var (i := 3) rfl (by first | exact Or.inl rfl | exact Or.inr (Or.inl rfl) | exact Or.inr (Or.inr rfl) | exact Or.inr rfl)) da_nil))) (da_cons (de_tup (da_cons (de_var (i := 2) rfl (by first | exact Or.inl rfl | exact Or.inr (Or.inl rfl) | exact Or.inr (Or.inr rfl) | exact Or.inr rfl)) (da_cons (de_callT dc_list (by rfl) z_list bt_list (da_cons (de_var (i := 3) rfl (by first | exact Or.inl rfl | exact Or.inr (Or.inl rfl) | exact Or.inr (Or.inr rfl) | exact Or.inr rfl)) da_nil)) da_nil))) da_nil)))))))
    (dss_cons (dst_set (i := 4) sc.nd rfl (.inl rfl) (de_op do_add (de_var (i := 4) rfl (by first | exact Or.inl rfl | exact Or.inr (Or.inl rfl) | exact Or.inr (Or.inr rfl) | exact Or.inr rfl)) (de_lstF (da_cons (de_lstF (da_cons (de_var (i := 2) rfl (by first | exact Or.inl rfl | exact Or.inr (Or.inl rfl) | exact Or.inr (Or.inr rfl) | exact Or.inr rfl)) (da_cons (de_var (i := 3) rfl (by first | exact Or.inl rfl | exact Or.inr (Or.inl rfl) | exact Or.inr (Or.inr rfl) | exact Or.inr rfl)) da_nil))) (da_cons (de_tup (da_cons (de_callT dc_list (by rfl) z_list bt_list (da_cons (de_var (i := 2) rfl (by first | exact Or.inl rfl | exact Or.inr (Or.inl rfl) | exact Or.inr (Or.inr rfl) | exact Or.inr rfl)) da_nil)) (da_cons (de_var (i := 3) rfl (by first | exact Or.inl rfl | exact Or.inr (Or.inl rfl) | exact Or.inr (Or.inr rfl) | exact Or.inr rfl)) da_nil))) (da_cons (de_tup (da_cons (de_var (i := 2) rfl (by first | exact Or.inl rfl | exact Or.inr (Or.inl rfl) | exact Or.inr (Or.inr rfl) | exact Or.inr rfl)) da_nil)) (da_cons (de_tup (da_cons (de_var (i := 2) rfl (by first | exact Or.inl rfl | exact Or.inr (Or.inl rfl) | exact Or.inr (Or.inr rfl) | exact Or.inr rfl)) (da_cons (de_var (i := 3) rfl (by first | exact Or.inl rfl | exact Or.inr (Or.inl rfl) | exact Or.inr (Or.inr rfl) | exact Or.inr rfl)) (da_cons (de_tup da_nil) da_nil)))) (da_cons (de_tup (da_cons (de_slice (de_var (i := 2) rfl (by first | exact Or.inl rfl | exact Or.inr (Or.inl rfl) | exact Or.inr (Or.inr rfl) | exact Or.inr rfl)) (dp_some de_int) dp_none) (da_cons (de_var (i := 3) rfl (by first | exact Or.inl rfl | exact Or.inr (Or.inl rfl) | exact Or.inr (Or.inr rfl) | exact Or.inr rfl)) da_nil))) (da_cons (de_tup (da_cons (de_var (i := 3) rfl (by first | exact Or.inl rfl | exact Or.inr (Or.inl rfl) | exact Or.inr (Or.inr rfl) | exact Or.inr rfl)) (da_cons (de_var (i := 2) rfl (by first | exact Or.inl rfl | exact Or.inr (Or.inl rfl) | exact Or.inr (Or.inr rfl) | exact Or.inr rfl)) da_nil))) da_nil)))))))))
    (dss_cons (dst_set (i := 4) sc.nd rfl (.inl rfl) (de_op do_add (de_var (i := 4) rfl (by first | exact Or.inl rfl | exact Or.inr (Or.inl rfl) | exact Or.inr (Or.inr rfl) | exact Or.inr rfl)) (de_lstF (da_cons (de_tup (da_cons (de_op do_add (de_var (i := 2) rfl (by first | exact Or.inl rfl | exact Or.inr (Or.inl rfl) | exact Or.inr (Or.inr rfl) | exact Or.inr rfl)) (de_slice (de_var (i := 2) rfl (by first | exact Or.inl rfl | exact Or.inr (Or.inl rfl) | exact Or.inr (Or.inr rfl) | exact Or.inr rfl)) (dp_some (de_neg de_int)) dp_none)) (da_cons (de_var (i := 3) rfl (by first | exact Or.inl rfl | exact Or.inr (Or.inl rfl) | exact Or.inr (Or.inr rfl) | exact Or.inr rfl)) da_nil))) (da_cons (de_tup (da_cons (de_op do_add (de_var (i := 2) rfl (by first | exact Or.inl rfl | exact Or.inr (Or.inl rfl) | exact Or.inr (Or.inr rfl) | exact Or.inr rfl)) (de_tup (da_cons de_int da_nil))) (da_cons (de_var (i := 3) rfl (by first | exact Or.inl rfl | exact Or.inr (Or.inl rfl) | exact Or.inr (Or.inr rfl) | exact Or.inr rfl)) da_nil))) (da_cons (de_tup (da_cons (de_op do_add (de_tup (da_cons (de_neg de_int) da_nil)) (de_var (i := 2) rfl (by first | exact Or.inl rfl | exact Or.inr (Or.inl rfl) | exact Or.inr (Or.inr rfl) | exact Or.inr rfl))) (da_cons (de_var (i := 3) rfl (by first | exact Or.inl rfl | exact Or.inr (Or.inl rfl) | exact Or.inr (Or.inr rfl) | exact Or.inr rfl)) da_nil))) (da_cons (de_tup (da_cons (de_var (i := 2) rfl (by first | exact Or.inl rfl | exact Or.inr (Or.inl rfl) | exact Or.inr (Or.inr rfl) | exact Or.inr rfl)) (da_cons (de_slice (de_var (i := 3) rfl (by first | exact Or.inl rfl | exact Or.inr (Or.inl rfl) | exact Or.inr (Or.inr rfl) | exact Or.inr rfl)) (dp_some de_int) dp_none) da_nil))) da_nil)))))))
    (dss_cons (dst_set (i := 4) sc.nd rfl (.inl rfl) (de_op do_add (de_var (i := 4) rfl (by first | exact Or.inl rfl | exact Or.inr (Or.inl rfl) | exact Or.inr (Or.inr rfl) | exact Or.inr rfl)) (de_lstF (da_cons (de_tup (da_cons (de_var (i := 2) rfl (by first | exact Or.inl rfl | exact Or.inr (Or.inl rfl) | exact Or.inr (Or.inr rfl) | exact Or.inr rfl)) (da_cons (de_op do_add (de_var (i := 3) rfl (by first | exact Or.inl rfl | exact Or.inr (Or.inl rfl) | exact Or.inr (Or.inr rfl) | exact Or.inr rfl)) (de_tup (da_cons (de_tup (da_cons de_int (da_cons de_int da_nil))) da_nil))) da_nil))) (da_cons (de_tup (da_cons (de_var (i := 2) rfl (by first | exact Or.inl rfl | exact Or.inr (Or.inl rfl) | exact Or.inr (Or.inr rfl) | exact Or.inr rfl)) (da_cons (de_op do_add (de_tup (da_cons (de_tup (da_cons de_int (da_cons de_int da_nil))) da_nil)) (de_var (i := 3) rfl (by first | exact Or.inl rfl | exact Or.inr (Or.inl rfl) | exact Or.inr (Or.inr rfl) | exact Or.inr rfl))) da_nil))) (da_cons (de_tup (da_cons (de_var (i := 2) rfl (by first | exact Or.inl rfl | exact Or.inr (Or.inl rfl) | exact Or.inr (Or.inr rfl) | exact Or.inr rfl)) (da_cons (de_op do_add (de_var (i := 3) rfl (by first | exact Or.inl rfl | exact Or.inr (Or.inl rfl) | exact Or.inr (Or.inr rfl) | exact Or.inr rfl)) (de_tup (da_cons de_non da_nil))) da_nil))) (da_cons (de_tup (da_cons (de_var (i := 2) rfl (by first | exact Or.inl rfl | exact Or.inr (Or.inl rfl) | exact Or.inr (Or.inr rfl) | exact Or.inr rfl)) (da_cons (de_tup da_nil) da_nil))) da_nil)))))))
    (dss_cons (dst_set (i := 5) sc.nd rfl (.inl rfl) (de_if (dt_cmp (do_ne hu) (de_var (i := 2) rfl (by first | exact Or.inl rfl | exact Or.inr (Or.inl rfl) | exact Or.inr (Or.inr rfl) | exact Or.inr rfl)) (de_tup da_nil) (nomark _)) (de_ix (de_var (i := 2) rfl (by first | exact Or.inl rfl | exact Or.inr (Or.inl rfl) | exact Or.inr (Or.inr rfl) | exact Or.inr rfl)) (de_fn G__law_draw hg (hr.mono (by decide)) (by rfl) (da_cons (de_var (i := 0) rfl (by first | exact Or.inl rfl | exact Or.inr (Or.inl rfl) | exact Or.inr (Or.inr rfl) | exact Or.inr rfl)) (da_cons (de_callB dc_len (by rfl) z_len bt_len (da_cons (de_var (i := 2) rfl (by first | exact Or.inl rfl | exact Or.inr (Or.inl rfl) | exact Or.inr (Or.inr rfl) | exact Or.inr rfl)) da_nil)) da_nil)))) de_int))
    (dss_cons (dst_set (i := 4) sc.nd rfl (.inl rfl) (de_op do_add (de_var (i := 4) rfl (by first | exact Or.inl rfl | exact Or.inr (Or.inl rfl) | exact Or.inr (Or.inr rfl) | exact Or.inr rfl)) (de_lstF (da_cons (de_tup (da_cons (de_var (i := 2) rfl (by first | exact Or.inl rfl | exact Or.inr (Or.inl rfl) | exact Or.inr (Or.inr rfl) | exact Or.inr rfl)) (da_cons (de_tup (da_cons (de_tup (da_cons (de_var (i := 5) rfl (by first | exact Or.inl rfl | exact Or.inr (Or.inl rfl) | exact Or.inr (Or.inr rfl) | exact Or.inr rfl)) (da_cons (de_var (i := 5) rfl (by first | exact Or.inl rfl | exact Or.inr (Or.inl rfl) | exact Or.inr (Or.inr rfl) | exact Or.inr rfl)) da_nil))) da_nil)) da_nil))) (da_cons (de_tup (da_cons (de_var (i := 2) rfl (by first | exact Or.inl rfl | exact Or.inr (Or.inl rfl) | exact Or.inr (Or.inr rfl) | exact Or.inr rfl)) (da_cons (de_tup (da_cons (de_tup (da_cons (de_var (i := 5) rfl (by first | exact Or.inl rfl | exact Or.inr (Or.inl rfl) | exact Or.inr (Or.inr rfl) | exact Or.inr rfl)) da_nil)) da_nil)) da_nil))) (da_cons (de_tup (da_cons (de_var (i := 2) rfl (by first | exact Or.inl rfl | exact Or.inr (Or.inl rfl) | exact Or.inr (Or.inr rfl) | exact Or.inr rfl)) (da_cons (de_tup (da_cons (de_tup (da_cons (de_var (i := 5) rfl (by first | exact Or.inl rfl | exact Or.inr (Or.inl rfl) | exact Or.inr (Or.inr rfl) | exact Or.inr rfl)) (da_cons (de_var (i := 5) rfl (by first | exact Or.inl rfl | exact Or.inr (Or.inl rfl) | exact Or.inr (Or.inr rfl) | exact Or.inr rfl)) (da_cons (de_var (i := 5) rfl (by first | exact Or.inl rfl | exact Or.inr (Or.inl rfl) | exact Or.inr (Or.inr rfl) | exact Or.inr rfl)) da_nil)))) da_nil)) da_nil))) (da_cons (de_tup (da_cons (de_var (i := 2) rfl (by first | exact Or.inl rfl | exact Or.inr (Or.inl rfl) | exact Or.inr (Or.inr rfl) | exact Or.inr rfl)) (da_cons (de_tup (da_cons (de_lstF (da_cons (de_var (i := 5) rfl (by first | exact Or.inl rfl | exact Or.inr (Or.inl rfl) | exact Or.inr (Or.inr rfl) | exact Or.inr rfl)) (da_cons (de_var (i := 5) rfl (by first | exact Or.inl rfl | exact Or.inr (Or.inl rfl) | exact Or.inr (Or.inr rfl) | exact Or.inr rfl)) da_nil))) da_nil)) da_nil))) da_nil)))))))
    (dss_cons (dst_set (i := 4) sc.nd rfl (.inl rfl) (de_op do_add (de_var (i := 4) rfl (by first | exact Or.inl rfl | exact Or.inr (Or.inl rfl) | exact Or.inr (Or.inr rfl) | exact Or.inr rfl)) (de_lstF (da_cons (de_tup (da_cons (de_var (i := 2) rfl (by first | exact Or.inl rfl | exact Or.inr (Or.inl rfl) | exact Or.inr (Or.inr rfl) | exact Or.inr rfl)) (da_cons (de_tup (da_cons (de_tup (da_cons (de_var (i := 5) rfl (by first | exact Or.inl rfl | exact Or.inr (Or.inl rfl) | exact Or.inr (Or.inr rfl) | exact Or.inr rfl)) (da_cons de_int da_nil))) da_nil)) da_nil))) (da_cons (de_tup (da_cons (de_var (i := 2) rfl (by first | exact Or.inl rfl | exact Or.inr (Or.inl rfl) | exact Or.inr (Or.inr rfl) | exact Or.inr rfl)) (da_cons (de_tup (da_cons (de_tup (da_cons de_bl (da_cons (de_var (i := 5) rfl (by first | exact Or.inl rfl | exact Or.inr (Or.inl rfl) | exact Or.inr (Or.inr rfl) | exact Or.inr rfl)) da_nil))) da_nil)) da_nil))) (da_cons (de_tup (da_cons (de_op do_add (de_tup (da_cons de_bl da_nil)) (de_slice (de_var (i := 2) rfl (by first | exact Or.inl rfl | exact Or.inr (Or.inl rfl) | exact Or.inr (Or.inr rfl) | exact Or.inr rfl)) (dp_some de_int) dp_none)) (da_cons (de_var (i := 3) rfl (by first | exact Or.inl rfl | exact Or.inr (Or.inl rfl) | exact Or.inr (Or.inr rfl) | exact Or.inr rfl)) da_nil))) (da_cons (de_tup (da_cons (de_rngTup rfl (by rfl) z_tuple (dprg_1 (by rfl) z_range de_int)) (da_cons (de_tup da_nil) da_nil))) da_nil)))))))
    (dss_one (dst_ret (de_op do_add (de_var (i := 4) rfl (by first | exact Or.inl rfl | exact Or.inr (Or.inl rfl) | exact Or.inr (Or.inr rfl) | exact Or.inr rfl)) (de_lstF (da_cons (de_tup (da_cons (de_rngTup rfl (by rfl) z_tuple (dprg_1 (by rfl) z_range de_int)) (da_cons (de_tup (da_cons (de_tup (da_cons de_int (da_cons de_int da_nil))) da_nil)) da_nil))) (da_cons (de_fn G__law_odd hg (hr.mono (by decide)) (by rfl) (da_cons (de_var (i := 0) rfl (by first | exact Or.inl rfl | exact Or.inr (Or.inl rfl) | exact Or.inr (Or.inr rfl) | exact Or.inr rfl)) da_nil)) (da_cons (de_fn G__law_odd hg (hr.mono (by decide)) (by rfl) (da_cons (de_var (i := 0) rfl (by first | exact Or.inl rfl | exact Or.inr (Or.inl rfl) | exact Or.inr (Or.inr rfl) | exact Or.inr rfl)) da_nil)) da_nil)))))))))))))))
abbrev s__law_speakers : Stmt := topS 16
theorem sc__law_speakers : FnScope N_law_speakers ["_law_pen_here", "_law_many"] (defScope s__law_speakers) := ⟨rfl, rfl, rfl, by decide +kernel, rfl, by decide +kernel, by decide +kernel⟩
theorem dv__law_speakers {P : Program} {w : World} {K : PySem.W.Frag} {mg : Str → Option Value} {base : Heap} {fa : Addr} (z_len : mg "len" = none) (z_sorted : mg "sorted" = none) (z_tuple : mg "tuple" = none) (G__law_draw : DFn P w K mg base CX0 1 "_law_draw" sp_law_draw) (cdv : Value) (A : Around) (outer : List Env) (s : Shared) (H : Hp) (E : XK)
    (hr : Room 1 (A.deeper (envOfC "_law_speakers" (defScope s__law_speakers) s.heap.objs.size fa cdv))) (hg : A.guards = some []) : DSs (cxOf CX0 P w K mg base N_law_speakers "_law_speakers" (defScope s__law_speakers) fa cdv A outer s H E).nox (defBody s__law_speakers) rd_law_speakers := by
  have sc := sc__law_speakers
  have hu := room_hu hr
  exact (dss_cons (dst_set (i := 2) sc.nd rfl (.inl rfl) (de_lst da_nil))
    (dss_cons (dst_while PassesOwn.never (dt_cmp (do_lt hu) (de_callB dc_len (by rfl) z_len bt_len (da_cons (de_var (i := 2) rfl (by first | exact Or.inl rfl | exact Or.inr (Or.inl rfl) | exact Or.inr (Or.inr rfl) | exact Or.inr rfl)) da_nil)) (de_var (i := 1) rfl (by first | exact Or.inl rfl | exact Or.inr (Or.inl rfl) | exact Or.inr (Or.inr rfl) | exact Or.inr rfl)) (nomark _)) (dss_cons (dst_set (i := 3) sc.nd rfl (.inl rfl) (de_op do_mod (de_op do_add (de_fn G__law_draw hg (hr.mono (by decide)) (by rfl) (da_cons (de_var (i := 0) rfl (by first | exact Or.inl rfl | exact Or.inr (Or.inl rfl) | exact Or.inr (Or.inr rfl) | exact Or.inr rfl)) (da_cons de_int da_nil))) (de_callB dc_len (by rfl) z_len bt_len (da_cons (de_var (i := 2) rfl (by first | exact Or.inl rfl | exact Or.inr (Or.inl rfl) | exact Or.inr (Or.inr rfl) | exact Or.inr rfl)) da_nil))) de_int))
    (dss_cons (dst_while PassesOwn.never (dt_cmp (do_in hu) (de_var (i := 3) rfl (by first | exact Or.inl rfl | exact Or.inr (Or.inl rfl) | exact Or.inr (Or.inr rfl) | exact Or.inr rfl)) (de_var (i := 2) rfl (by first | exact Or.inl rfl | exact Or.inr (Or.inl rfl) | exact Or.inr (Or.inr rfl) | exact Or.inr rfl)) (by with_unfolding_all rfl)) (dss_one (dst_set (i := 3) sc.nd rfl (.inl rfl) (de_op do_mod (de_op do_add (de_var (i := 3) rfl (by first | exact Or.inl rfl | exact Or.inr (Or.inl rfl) | exact Or.inr (Or.inr rfl) | exact Or.inr rfl)) de_int) de_int))))
    (dss_one (dst_expr (dm_append (de_var (i := 2) rfl (by first | exact Or.inl rfl | exact Or.inr (Or.inl rfl) | exact Or.inr (Or.inr rfl) | exact Or.inr rfl)) (da_cons (de_var (i := 3) rfl (by first | exact Or.inl rfl | exact Or.inr (Or.inl rfl) | exact Or.inr (Or.inr rfl) | exact Or.inr rfl)) da_nil)))))))
    (dss_one (dst_ret (de_callT dc_tuple (by rfl) z_tuple bt_tuple (da_cons (de_callB (dc_sorted hu) (by rfl) z_sorted bt_sorted (da_cons (de_var (i := 2) rfl (by first | exact Or.inl rfl | exact Or.inr (Or.inl rfl) | exact Or.inr (Or.inr rfl) | exact Or.inr rfl)) da_nil)) da_nil))))))
abbrev s__law_debate : Stmt := topS 17
theorem sc__law_debate : FnScope N_law_debate ["_law_pen_here", "_law_many"] (defScope s__law_debate) := ⟨rfl, rfl, rfl, by decide +kernel, rfl, by decide +kernel, by decide +kernel⟩
theorem dv__law_debate {P : Program} {w : World} {K : PySem.W.Frag} {mg : Str → Option Value} {base : Heap} {fa : Addr} (z_int : mg "int" = none) (z_sorted : mg "sorted" = none) (z_tuple : mg "tuple" = none) (G__law_draw : DFn P w K mg base CX0 1 "_law_draw" sp_law_draw) (G__law_speakers : DFn P w K mg base CX0 2 "_law_speakers" sp_law_speakers) (cdv : Value) (A : Around) (outer : List Env) (s : Shared) (H : Hp) (E : XK)
    (hr : Room 2 (A.deeper (envOfC "_law_debate" (defScope s__law_debate) s.heap.objs.size fa cdv))) (hg : A.guards = some []) : DSs (cxOf CX0 P w K mg base N_law_debate "_law_debate" (defScope s__law_debate) fa cdv A outer s H E).nox (defBody s__law_debate) rd_law_debate := by
  have sc := sc__law_debate
  have hu := room_hu hr
  exact (dss_cons (dst_par3 (i := 2) (j := 3) (l := 4) rfl sc.nd (da_cons (de_fn G__law_speakers hg (hr.mono (by decide)) (by rfl) (da_cons (de_var (i := 0) rfl (by first | exact Or.inl rfl | exact Or.inr (Or.inl rfl) | exact Or.inr (Or.inr rfl) | exact Or.inr rfl)) (da_cons (de_var (i := 1) rfl (by first | exact Or.inl rfl | exact Or.inr (Or.inl rfl) | exact Or.inr (Or.inr rfl) | exact Or.inr rfl)) da_nil))) (da_cons (de_op do_add de_int (de_fn G__law_draw hg (hr.mono (by decide)) (by rfl) (da_cons (de_var (i := 0) rfl (by first | exact Or.inl rfl | exact Or.inr (Or.inl rfl) | exact Or.inr (Or.inr rfl) | exact Or.inr rfl)) (da_cons de_int da_nil)))) (da_cons (de_fn G__law_draw hg (hr.mono (by decide)) (by rfl) (da_cons (de_var (i := 0) rfl (by first | exact Or.inl rfl | exact Or.inr (Or.inl rfl) | exact Or.inr (Or.inr rfl) | exact Or.inr rfl)) (da_cons de_int da_nil))) da_nil))) rfl rfl rfl)
    (dss_cons (dst_set (i := 5) sc.nd rfl (.inl rfl) (de_lst da_nil))
    (dss_cons (dst_for PassesOwn.never rfl (di_seq (de_var (i := 2) rfl (by first | exact Or.inl rfl | exact Or.inr (Or.inl rfl) | exact Or.inr (Or.inr rfl) | exact Or.inr rfl))) (dg_name (i := 6) sc.nd rfl (.inl rfl)) (dss_one (dst_for PassesOwn.never rfl (di_seq (de_var (i := 2) rfl (by first | exact Or.inl rfl | exact Or.inr (Or.inl rfl) | exact Or.inr (Or.inr rfl) | exact Or.inr rfl))) (dg_name (i := 7) sc.nd rfl (.inl rfl)) (dss_cons (dst_set (i := 8) sc.nd rfl (.inl rfl) (de_if (dt_cmp (do_ne hu) (de_var (i := 6) rfl (by first | exact Or.inl rfl | exact Or.inr (Or.inl rfl) | exact Or.inr (Or.inr rfl) | exact Or.inr rfl)) (de_var (i := 7) rfl (by first | exact Or.inl rfl | exact Or.inr (Or.inl rfl) | exact Or.inr (Or.inr rfl) | exact Or.inr rfl)) (nomark _)) (de_var (i := 3) rfl (by first | exact Or.inl rfl | exact Or.inr (Or.inl rfl) | exact Or.inr (Or.inr rfl) | exact Or.inr rfl)) (de_var (i := 4) rfl (by first | exact Or.inl rfl | exact Or.inr (Or.inl rfl) | exact Or.inr (Or.inr rfl) | exact Or.inr rfl))))
    (dss_one (dst_if (dt_cmp (do_lt hu) (de_fn G__law_draw hg (hr.mono (by decide)) (by rfl) (da_cons (de_var (i := 0) rfl (by first | exact Or.inl rfl | exact Or.inr (Or.inl rfl) | exact Or.inr (Or.inr rfl) | exact Or.inr rfl)) (da_cons (de_op do_add de_int (de_op do_mul de_int (de_callT dc_int (by rfl) z_int bt_int (da_cons (de_cmp (do_eq hu) (de_var (i := 6) rfl (by first | exact Or.inl rfl | exact Or.inr (Or.inl rfl) | exact Or.inr (Or.inr rfl) | exact Or.inr rfl)) (de_var (i := 7) rfl (by first | exact Or.inl rfl | exact Or.inr (Or.inl rfl) | exact Or.inr (Or.inr rfl) | exact Or.inr rfl)) (nomark _)) da_nil)))) da_nil))) (de_var (i := 8) rfl (by first | exact Or.inl rfl | exact Or.inr (Or.inl rfl) | exact Or.inr (Or.inr rfl) | exact Or.inr rfl)) (nomark _)) (dss_one (dst_expr (dm_append (de_var (i := 5) rfl (by first | exact Or.inl rfl | exact Or.inr (Or.inl rfl) | exact Or.inr (Or.inr rfl) | exact Or.inr rfl)) (da_cons (de_tup (da_cons (de_var (i := 6) rfl (by first | exact Or.inl rfl | exact Or.inr (Or.inl rfl) | exact Or.inr (Or.inr rfl) | exact Or.inr rfl)) (da_cons (de_var (i := 7) rfl (by first | exact Or.inl rfl | exact Or.inr (Or.inl rfl) | exact Or.inr (Or.inr rfl) | exact Or.inr rfl)) da_nil))) da_nil)))) dss_nil))))))
    (dss_one (dst_ret (de_tup (da_cons (de_var (i := 2) rfl (by first | exact Or.inl rfl | exact Or.inr (Or.inl rfl) | exact Or.inr (Or.inr rfl) | exact Or.inr rfl)) (da_cons (de_callT dc_tuple (by rfl) z_tuple bt_tuple (da_cons (de_callB (dc_sorted hu) (by rfl) z_sorted bt_sorted (da_cons (de_var (i := 5) rfl (by first | exact Or.inl rfl | exact Or.inr (Or.inl rfl) | exact Or.inr (Or.inr rfl) | exact Or.inr rfl)) da_nil)) da_nil)) da_nil))))))))
abbrev s__law_is_number : Stmt := topS 18
theorem sc__law_is_number : FnScope N_law_is_number ["_law_value", "_law_last"] (defScope s__law_is_number) := ⟨rfl, rfl, rfl, by decide +kernel, rfl, by decide +kernel, by decide +kernel⟩
theorem dv__law_is_number {P : Program} {w : World} {K : PySem.W.Frag} {mg : Str → Option Value} {base : Heap} {fa : Addr} (z_int : mg "int" = none) (z_isinstance : mg "isinstance" = none) (z_bool : mg "bool" = none) (cdv : Value) (A : Around) (outer : List Env) (s : Shared) (H : Hp) (E : XK)
    (hr : Room 0 (A.deeper (envOfC "_law_is_number" (defScope s__law_is_number) s.heap.objs.size fa cdv))) (hg : A.guards = some []) : DSs (cxOf CX0 P w K mg base N_law_is_number "_law_is_number" (defScope s__law_is_number) fa cdv A outer s H E).nox (defBody s__law_is_number) rd_law_is_number := by
  have sc := sc__law_is_number
  have hu := room_hu hr
  exact (dss_one (dst_ret (de_and (de_callB dc_isi (by rfl) z_isinstance bt_isinstance (da_cons (de_var (i := 0) rfl (by first | exact Or.inl rfl | exact Or.inr (Or.inl rfl) | exact Or.inr (Or.inr rfl) | exact Or.inr rfl)) (da_cons (de_ty (by rfl) z_int bt_int) da_nil))) (de_and (de_not (de_callB dc_isi (by rfl) z_isinstance bt_isinstance (da_cons (de_var (i := 0) rfl (by first | exact Or.inl rfl | exact Or.inr (Or.inl rfl) | exact Or.inr (Or.inr rfl) | exact Or.inr rfl)) (da_cons (de_ty (by rfl) z_bool bt_bool) da_nil)))) (de_one (de_chain (do_le hu) (do_le hu) de_int (de_var (i := 0) rfl (by first | exact Or.inl rfl | exact Or.inr (Or.inl rfl) | exact Or.inr (Or.inr rfl) | exact Or.inr rfl)) (de_var (i := 1) rfl (by first | exact Or.inl rfl | exact Or.inr (Or.inl rfl) | exact Or.inr (Or.inr rfl) | exact Or.inr rfl))))))))
abbrev s__law_is_set : Stmt := topS 19
theorem sc__law_is_set : FnScope N_law_is_set ["_law_value", "_law_last"] (defScope s__law_is_set) := ⟨rfl, rfl, rfl, by decide +kernel, rfl, by decide +kernel, by decide +kernel⟩
theorem dv__law_is_set {P : Program} {w : World} {K : PySem.W.Frag} {mg : Str → Option Value} {base : Heap} {fa : Addr} (z_tuple : mg "tuple" = none) (z_isinstance : mg "isinstance" = none) (z_list : mg "list" = none) (z_range : mg "range" = none) (G__law_is_number : DFn P w K mg base CX0 1 "_law_is_number" sp_law_is_number) (cdv : Value) (A : Around) (outer : List Env) (s : Shared) (H : Hp) (E : XK)
    (hr : Room 1 (A.deeper (envOfC "_law_is_set" (defScope s__law_is_set) s.heap.objs.size fa cdv))) (hg : A.guards = some []) : DSs (cxOf CX0 P w K mg base N_law_is_set "_law_is_set" (defScope s__law_is_set) fa cdv A outer s H E).nox (defBody s__law_is_set) rd_law_is_set := by
  have sc := sc__law_is_set
  have hu := room_hu hr
  exact (dss_cons (dst_if (dt_not (dt_val (de_callB dc_isi (by rfl) z_isinstance bt_isinstance (da_cons (de_var (i := 0) rfl (by first | exact Or.inl rfl | exact Or.inr (Or.inl rfl) | exact Or.inr (Or.inr rfl) | exact Or.inr rfl)) (da_cons (de_ty (by rfl) z_tuple bt_tuple) da_nil))))) (dss_one (dst_ret de_bl)) dss_nil)
    (dss_cons (dst_if (dt_cmp (do_ne hu) (de_comp (own := [("_law_one", 2)]) rfl sc.nd (di_seq (de_var (i := 0) rfl (by first | exact Or.inl rfl | exact Or.inr (Or.inl rfl) | exact Or.inr (Or.inr rfl) | exact Or.inr rfl))) (blkOk_by (N := N_law_is_set) (sc := defScope (s__law_is_set)) (by decide +kernel)) (gin_name (i := 2) (by decide)) (fun _ _ _ _ _ => (pg_name (i := 2) sc.nd rfl (Or.inl rfl))) (fun _ _ _ _ _ => (dts_one (dt_not (dt_val (de_fn G__law_is_number hg (hr.mono (by decide)) (by rfl) (da_cons (de_var (i := 2) rfl (by first | exact Or.inl rfl | exact Or.inr (Or.inl rfl) | exact Or.inr (Or.inr rfl) | exact Or.inr rfl)) (da_cons (de_var (i := 1) rfl (by first | exact Or.inl rfl | exact Or.inr (Or.inl rfl) | exact Or.inr (Or.inr rfl) | exact Or.inr rfl)) da_nil))))))) (fun _ _ _ _ _ => de_int)) (de_lstF da_nil) (nomark _)) (dss_one (dst_ret de_bl)) dss_nil)
    (dss_one (dst_ret (de_cmp (do_eq hu) (de_callT dc_list (by rfl) z_list bt_list (da_cons (de_var (i := 0) rfl (by first | exact Or.inl rfl | exact Or.inr (Or.inl rfl) | exact Or.inr (Or.inr rfl) | exact Or.inr rfl)) da_nil)) (de_comp (own := [("_law_one", 2)]) rfl sc.nd (di_range1 (by rfl) z_range (da_cons (de_op do_add (de_var (i := 1) rfl (by first | exact Or.inl rfl | exact Or.inr (Or.inl rfl) | exact Or.inr (Or.inr rfl) | exact Or.inr rfl)) de_int) da_nil)) (blkOk_by (N := N_law_is_set) (sc := defScope (s__law_is_set)) (by decide +kernel)) (gin_name (i := 2) (by decide)) (fun _ _ _ _ _ => (pg_name (i := 2) sc.nd rfl (Or.inl rfl))) (fun _ _ _ _ _ => (dts_one (dt_cmp (do_in hu) (de_var (i := 2) rfl (by first | exact Or.inl rfl | exact Or.inr (Or.inl rfl) | exact Or.inr (Or.inr rfl) | exact Or.inr rfl)) (de_var (i := 0) rfl (by first | exact Or.inl rfl | exact Or.inr (Or.inl rfl) | exact Or.inr (Or.inr rfl) | exact Or.inr rfl)) (by with_unfolding_all rfl)))) (fun _ _ _ _ _ => (de_var (i := 2) rfl (by first | exact Or.inl rfl | exact Or.inr (Or.inl rfl) | exact Or.inr (Or.inr rfl) | exact Or.inr rfl)))) (nomark _))))))
abbrev s__law_is_debate : Stmt := topS 20
theorem sc__law_is_debate : FnScope N_law_is_debate ["_law_value"] (defScope s__law_is_debate) := ⟨rfl, rfl, rfl, by decide +kernel, rfl, by decide +kernel, by decide +kernel⟩
theorem dv__law_is_debate {P : Program} {w : World} {K : PySem.W.Frag} {mg : Str → Option Value} {base : Heap} {fa : Addr} (z_tuple : mg "tuple" = none) (z_isinstance : mg "isinstance" = none) (z_len : mg "len" = none) (z_list : mg "list" = none) (z_sorted : mg "sorted" = none) (G__law_is_set : DFn P w K mg base CX0 2 "_law_is_set" sp_law_is_set) (G__law_is_number : DFn P w K mg base CX0 1 "_law_is_number" sp_law_is_number) (cdv : Value) (A : Around) (outer : List Env) (s : Shared) (H : Hp) (E : XK)
    (hr : Room 2 (A.deeper (envOfC "_law_is_debate" (defScope s__law_is_debate) s.heap.objs.size fa cdv))) (hg : A.guards = some []) : DSs (cxOf CX0 P w K mg base N_law_is_debate "_law_is_debate" (defScope s__law_is_debate) fa cdv A outer s H E).nox (defBody s__law_is_debate) rd_law_is_debate := by
  have sc := sc__law_is_debate
  have hu := room_hu hr
  exact (dss_cons (dst_if (dt_w (dw_or (dt_not (dt_val (de_callB dc_isi (by rfl) z_isinstance bt_isinstance (da_cons (de_var (i := 0) rfl (by first | exact Or.inl rfl | exact Or.inr (Or.inl rfl) | exact Or.inr (Or.inr rfl) | exact Or.inr rfl)) (da_cons (de_ty (by rfl) z_tuple bt_tuple) da_nil))))) (dw_or (dt_cmp (do_ne hu) (de_callB dc_len (by rfl) z_len bt_len (da_cons (de_var (i := 0) rfl (by first | exact Or.inl rfl | exact Or.inr (Or.inl rfl) | exact Or.inr (Or.inr rfl) | exact Or.inr rfl)) da_nil)) de_int (nomark _)) (dw_or (dt_not (dt_val (de_fn G__law_is_set hg (hr.mono (by decide)) (by rfl) (da_cons (de_ix (de_var (i := 0) rfl (by first | exact Or.inl rfl | exact Or.inr (Or.inl rfl) | exact Or.inr (Or.inr rfl) | exact Or.inr rfl)) de_int) (da_cons de_int da_nil))))) (dw_or1 (dt_cmp (do_gt hu) (de_callB dc_len (by rfl) z_len bt_len (da_cons (de_ix (de_var (i := 0) rfl (by first | exact Or.inl rfl | exact Or.inr (Or.inl rfl) | exact Or.inr (Or.inr rfl) | exact Or.inr rfl)) de_int) da_nil)) de_int (nomark _))))))) (dss_one (dst_ret de_bl)) dss_nil)
    (dss_cons (dst_if (dt_not (dt_val (de_callB dc_isi (by rfl) z_isinstance bt_isinstance (da_cons (de_ix (de_var (i := 0) rfl (by first | exact Or.inl rfl | exact Or.inr (Or.inl rfl) | exact Or.inr (Or.inr rfl) | exact Or.inr rfl)) de_int) (da_cons (de_ty (by rfl) z_tuple bt_tuple) da_nil))))) (dss_one (dst_ret de_bl)) dss_nil)
    (dss_cons (dst_for PassesOwn.never rfl (di_seq (de_ix (de_var (i := 0) rfl (by first | exact Or.inl rfl | exact Or.inr (Or.inl rfl) | exact Or.inr (Or.inr rfl) | exact Or.inr rfl)) de_int)) (dg_name (i := 1) sc.nd rfl (.inl rfl)) (dss_cons (dst_if (dt_w (dw_or (dt_not (dt_val (de_callB dc_isi (by rfl) z_isinstance bt_isinstance (da_cons (de_var (i := 1) rfl (by first | exact Or.inl rfl | exact Or.inr (Or.inl rfl) | exact Or.inr (Or.inr rfl) | exact Or.inr rfl)) (da_cons (de_ty (by rfl) z_tuple bt_tuple) da_nil))))) (dw_or1 (dt_cmp (do_ne hu) (de_callB dc_len (by rfl) z_len bt_len (da_cons (de_var (i := 1) rfl (by first | exact Or.inl rfl | exact Or.inr (Or.inl rfl) | exact Or.inr (Or.inr rfl) | exact Or.inr rfl)) da_nil)) de_int (nomark _))))) (dss_one (dst_ret de_bl)) dss_nil)
    (dss_one (dst_if (dt_cmp (do_ne hu) (de_comp (own := [("_law_one", 2)]) rfl sc.nd (di_seq (de_var (i := 1) rfl (by first | exact Or.inl rfl | exact Or.inr (Or.inl rfl) | exact Or.inr (Or.inr rfl) | exact Or.inr rfl))) (blkOk_by (N := N_law_is_debate) (sc := defScope (s__law_is_debate)) (by decide +kernel)) (gin_name (i := 2) (by decide)) (fun _ _ _ _ _ => (pg_name (i := 2) sc.nd rfl (Or.inl rfl))) (fun _ _ _ _ _ => (dts_one (dt_w (dw_or (dt_not (dt_val (de_fn G__law_is_number hg (hr.mono (by decide)) (by rfl) (da_cons (de_var (i := 2) rfl (by first | exact Or.inl rfl | exact Or.inr (Or.inl rfl) | exact Or.inr (Or.inr rfl) | exact Or.inr rfl)) (da_cons de_int da_nil))))) (dw_or1 (dt_cmp (do_notIn hu) (de_var (i := 2) rfl (by first | exact Or.inl rfl | exact Or.inr (Or.inl rfl) | exact Or.inr (Or.inr rfl) | exact Or.inr rfl)) (de_ix (de_var (i := 0) rfl (by first | exact Or.inl rfl | exact Or.inr (Or.inl rfl) | exact Or.inr (Or.inr rfl) | exact Or.inr rfl)) de_int) (by with_unfolding_all rfl))))))) (fun _ _ _ _ _ => de_int)) (de_lstF da_nil) (nomark _)) (dss_one (dst_ret de_bl)) dss_nil))))
    (dss_one (dst_ret (de_and (de_cmp (do_eq hu) (de_callT dc_list (by rfl) z_list bt_list (da_cons (de_ix (de_var (i := 0) rfl (by first | exact Or.inl rfl | exact Or.inr (Or.inl rfl) | exact Or.inr (Or.inr rfl) | exact Or.inr rfl)) de_int) da_nil)) (de_callB (dc_sorted hu) (by rfl) z_sorted bt_sorted (da_cons (de_ix (de_var (i := 0) rfl (by first | exact Or.inl rfl | exact Or.inr (Or.inl rfl) | exact Or.inr (Or.inr rfl) | exact Or.inr rfl)) de_int) da_nil)) (nomark _)) (de_one (de_cmp (do_eq hu) (de_comp (own := [("_law_pair", 1)]) rfl sc.nd (di_seq (de_ix (de_var (i := 0) rfl (by first | exact Or.inl rfl | exact Or.inr (Or.inl rfl) | exact Or.inr (Or.inr rfl) | exact Or.inr rfl)) de_int)) (blkOk_by (N := N_law_is_debate) (sc := defScope (s__law_is_debate)) (by decide +kernel)) (gin_name (i := 1) (by decide)) (fun _ _ _ _ _ => (pg_name (i := 1) sc.nd rfl (Or.inl rfl))) (fun _ _ _ _ _ => dts_nil) (fun _ _ _ _ _ => (de_count hu (de_ix (de_var (i := 0) rfl (by first | exact Or.inl rfl | exact Or.inr (Or.inl rfl) | exact Or.inr (Or.inr rfl) | exact Or.inr rfl)) de_int) (da_cons (de_var (i := 1) rfl (by first | exact Or.inl rfl | exact Or.inr (Or.inl rfl) | exact Or.inr (Or.inr rfl) | exact Or.inr rfl)) da_nil)))) (de_op do_repL (de_lstF (da_cons de_int da_nil)) (de_callB dc_len (by rfl) z_len bt_len (da_cons (de_ix (de_var (i := 0) rfl (by first | exact Or.inl rfl | exact Or.inr (Or.inl rfl) | exact Or.inr (Or.inr rfl) | exact Or.inr rfl)) de_int) da_nil))) (nomark _)))))))))
abbrev s__law_same : Stmt := topS 15
theorem sc__law_same : FnScope N_law_same ["_law_actual", "_law_due"] (defScope s__law_same) := ⟨rfl, rfl, rfl, by decide +kernel, rfl, by decide +kernel, by decide +kernel⟩
theorem dv__law_same {P : Program} {w : World} {K : PySem.W.Frag} {mg : Str → Option Value} {base : Heap} {fa : Addr} (z_repr : mg "repr" = none) (cdv : Value) (A : Around) (outer : List Env) (s : Shared) (H : Hp) (E : XK)
    (hr : Room 0 (A.deeper (envOfC "_law_same" (defScope s__law_same) s.heap.objs.size fa cdv))) (hg : A.guards = some []) : DSs (cxOf CX0 P w K mg base N_law_same "_law_same" (defScope s__law_same) fa cdv A outer s H E).nox (defBody s__law_same) rd_law_same := by
  have sc := sc__law_same
  have hu := room_hu hr
  exact (dss_one (dst_ret (de_cmp (do_eq hu) (de_callB (dc_repr hu hg) (by rfl) z_repr bt_repr (da_cons (de_var (i := 0) rfl (by first | exact Or.inl rfl | exact Or.inr (Or.inl rfl) | exact Or.inr (Or.inr rfl) | exact Or.inr rfl)) da_nil)) (de_callB (dc_repr hu hg) (by rfl) z_repr bt_repr (da_cons (de_var (i := 1) rfl (by first | exact Or.inl rfl | exact Or.inr (Or.inl rfl) | exact Or.inr (Or.inr rfl) | exact Or.inr rfl)) da_nil)) (nomark _))))
abbrev s_is_number : Stmt := topS 3
theorem sc_is_number : FnScope N_is_number ["value", "low", "high"] (defScope s_is_number) := ⟨rfl, rfl, rfl, by decide +kernel, rfl, by decide +kernel, by decide +kernel⟩
theorem dv_is_number {P : Program} {w : World} {K : PySem.W.Frag} {mg : Str → Option Value} {base : Heap} {fa : Addr} (z_int : mg "int" = none) (z_isinstance : mg "isinstance" = none) (z_bool : mg "bool" = none) (cdv : Value) (A : Around) (outer : List Env) (s : Shared) (H : Hp) (E : XK)
    (hr : Room 0 (A.deeper (envOfC "is_number" (defScope s_is_number) s.heap.objs.size fa cdv))) (hg : A.guards = some []) : DSs (cxOf CX0 P w K mg base N_is_number "is_number" (defScope s_is_number) fa cdv A outer s H E).nox (defBody s_is_number) rd_is_number := by
  have sc := sc_is_number
  have hu := room_hu hr
  exact (dss_one (dst_ret (de_and (de_callB dc_isi (by rfl) z_isinstance bt_isinstance (da_cons (de_var (i := 0) rfl (by first | exact Or.inl rfl | exact Or.inr (Or.inl rfl) | exact Or.inr (Or.inr rfl) | exact Or.inr rfl)) (da_cons (de_ty (by rfl) z_int bt_int) da_nil))) (de_and (de_not (de_callB dc_isi (by rfl) z_isinstance bt_isinstance (da_cons (de_var (i := 0) rfl (by first | exact Or.inl rfl | exact Or.inr (Or.inl rfl) | exact Or.inr (Or.inr rfl) | exact Or.inr rfl)) (da_cons (de_ty (by rfl) z_bool bt_bool) da_nil)))) (de_one (de_chain (do_le hu) (do_le hu) (de_var (i := 1) rfl (by first | exact Or.inl rfl | exact Or.inr (Or.inl rfl) | exact Or.inr (Or.inr rfl) | exact Or.inr rfl)) (de_var (i := 0) rfl (by first | exact Or.inl rfl | exact Or.inr (Or.inl rfl) | exact Or.inr (Or.inr rfl) | exact Or.inr rfl)) (de_var (i := 2) rfl (by first | exact Or.inl rfl | exact Or.inr (Or.inl rfl) | exact Or.inr (Or.inr rfl) | exact Or.inr rfl))))))))
abbrev s_rises : Stmt := topS 4
theorem sc_rises : FnScope N_rises ["row"] (defScope s_rises) := ⟨rfl, rfl, rfl, by decide +kernel, rfl, by decide +kernel, by decide +kernel⟩
theorem dv_rises {P : Program} {w : World} {K : PySem.W.Frag} {mg : Str → Option Value} {base : Heap} {fa : Addr} (z_zip : mg "zip" = none) (z_all : mg "all" = none) (cdv : Value) (A : Around) (outer : List Env) (s : Shared) (H : Hp) (E : XK)
    (hr : Room 0 (A.deeper (envOfC "rises" (defScope s_rises) s.heap.objs.size fa cdv))) (hg : A.guards = some []) : DSs (cxOf CX0 P w K mg base N_rises "rises" (defScope s_rises) fa cdv A outer s H E).nox (defBody s_rises) rd_rises := by
  have sc := sc_rises
  have hu := room_hu hr
  exact (dss_one (dst_ret (de_callB (dc_all rfl) (by rfl) z_all bt_all (da_cons (de_comp (own := [("one", 1), ("later", 2)]) rfl sc.nd (di_zip (by rfl) z_zip (da_cons (de_var (i := 0) rfl (by first | exact Or.inl rfl | exact Or.inr (Or.inl rfl) | exact Or.inr (Or.inr rfl) | exact Or.inr rfl)) (da_cons (de_slice (de_var (i := 0) rfl (by first | exact Or.inl rfl | exact Or.inr (Or.inl rfl) | exact Or.inr (Or.inr rfl) | exact Or.inr rfl)) (dp_some de_int) dp_none) da_nil))) (blkOk_by (N := N_rises) (sc := defScope (s_rises)) (by decide +kernel)) (gin_two (i := 1) (j := 2) (by decide) (by decide)) (fun _ _ _ _ _ => (pg_tup rfl (pgs_cons (pg_name (i := 1) sc.nd rfl (Or.inl rfl)) (pgs_cons (pg_name (i := 2) sc.nd rfl (Or.inl rfl)) pgs_nil)))) (fun _ _ _ _ _ => dts_nil) (fun _ _ _ _ _ => (de_cmp (do_lt hu) (de_var (i := 1) rfl (by first | exact Or.inl rfl | exact Or.inr (Or.inl rfl) | exact Or.inr (Or.inr rfl) | exact Or.inr rfl)) (de_var (i := 2) rfl (by first | exact Or.inl rfl | exact Or.inr (Or.inl rfl) | exact Or.inr (Or.inr rfl) | exact Or.inr rfl)) (nomark _)))) da_nil))))
abbrev s_is_set : Stmt := topS 5
theorem sc_is_set : FnScope N_is_set ["value", "last"] (defScope s_is_set) := ⟨rfl, rfl, rfl, by decide +kernel, rfl, by decide +kernel, by decide +kernel⟩
theorem dv_is_set {P : Program} {w : World} {K : PySem.W.Frag} {mg : Str → Option Value} {base : Heap} {fa : Addr} (z_tuple : mg "tuple" = none) (z_isinstance : mg "isinstance" = none) (z_all : mg "all" = none) (G_is_number : DFn P w K mg base CX0 1 "is_number" sp_is_number) (G_rises : DFn P w K mg base CX0 1 "rises" sp_rises) (cdv : Value) (A : Around) (outer : List Env) (s : Shared) (H : Hp) (E : XK)
    (hr : Room 1 (A.deeper (envOfC "is_set" (defScope s_is_set) s.heap.objs.size fa cdv))) (hg : A.guards = some []) : DSs (cxOf CX0 P w K mg base N_is_set "is_set" (defScope s_is_set) fa cdv A outer s H E).nox (defBody s_is_set) rd_is_set := by
  have sc := sc_is_set
  have hu := room_hu hr
  exact (dss_one (dst_ret (de_and (de_callB dc_isi (by rfl) z_isinstance bt_isinstance (da_cons (de_var (i := 0) rfl (by first | exact Or.inl rfl | exact Or.inr (Or.inl rfl) | exact Or.inr (Or.inr rfl) | exact Or.inr rfl)) (da_cons (de_ty (by rfl) z_tuple bt_tuple) da_nil))) (de_and (de_callB (dc_all rfl) (by rfl) z_all bt_all (da_cons (de_comp (own := [("one", 2)]) rfl sc.nd (di_seq (de_var (i := 0) rfl (by first | exact Or.inl rfl | exact Or.inr (Or.inl rfl) | exact Or.inr (Or.inr rfl) | exact Or.inr rfl))) (blkOk_by (N := N_is_set) (sc := defScope (s_is_set)) (by decide +kernel)) (gin_name (i := 2) (by decide)) (fun _ _ _ _ _ => (pg_name (i := 2) sc.nd rfl (Or.inl rfl))) (fun _ _ _ _ _ => dts_nil) (fun _ _ _ _ _ => (de_fn G_is_number hg (hr.mono (by decide)) (by rfl) (da_cons (de_var (i := 2) rfl (by first | exact Or.inl rfl | exact Or.inr (Or.inl rfl) | exact Or.inr (Or.inr rfl) | exact Or.inr rfl)) (da_cons de_int (da_cons (de_var (i := 1) rfl (by first | exact Or.inl rfl | exact Or.inr (Or.inl rfl) | exact Or.inr (Or.inr rfl) | exact Or.inr rfl)) da_nil)))))) da_nil)) (de_one (de_fn G_rises hg (hr.mono (by decide)) (by rfl) (da_cons (de_var (i := 0) rfl (by first | exact Or.inl rfl | exact Or.inr (Or.inl rfl) | exact Or.inr (Or.inr rfl) | exact Or.inr rfl)) da_nil)))))))
abbrev s_are_speakers : Stmt := topS 6
theorem sc_are_speakers : FnScope N_are_speakers ["value"] (defScope s_are_speakers) := ⟨rfl, rfl, rfl, by decide +kernel, rfl, by decide +kernel, by decide +kernel⟩
theorem dv_are_speakers {P : Program} {w : World} {K : PySem.W.Frag} {mg : Str → Option Value} {base : Heap} {fa : Addr} (z_len : mg "len" = none) {t_LAST_SPEAKER : Tok} (v_LAST_SPEAKER : mg "LAST_SPEAKER" = some (.int 19 t_LAST_SPEAKER)) {t_MOST_SPEAKERS : Tok} (v_MOST_SPEAKERS : mg "MOST_SPEAKERS" = some (.int 15 t_MOST_SPEAKERS)) (G_is_set : DFn P w K mg base CX0 2 "is_set" sp_is_set) (cdv : Value) (A : Around) (outer : List Env) (s : Shared) (H : Hp) (E : XK)
    (hr : Room 2 (A.deeper (envOfC "are_speakers" (defScope s_are_speakers) s.heap.objs.size fa cdv))) (hg : A.guards = some []) : DSs (cxOf CX0 P w K mg base N_are_speakers "are_speakers" (defScope s_are_speakers) fa cdv A outer s H E).nox (defBody s_are_speakers) rd_are_speakers := by
  have sc := sc_are_speakers
  have hu := room_hu hr
  exact (dss_one (dst_ret (de_and (de_fn G_is_set hg (hr.mono (by decide)) (by rfl) (da_cons (de_var (i := 0) rfl (by first | exact Or.inl rfl | exact Or.inr (Or.inl rfl) | exact Or.inr (Or.inr rfl) | exact Or.inr rfl)) (da_cons (de_globI (by rfl) v_LAST_SPEAKER) da_nil))) (de_one (de_cmp (do_le hu) (de_callB dc_len (by rfl) z_len bt_len (da_cons (de_var (i := 0) rfl (by first | exact Or.inl rfl | exact Or.inr (Or.inl rfl) | exact Or.inr (Or.inr rfl) | exact Or.inr rfl)) da_nil)) (de_globI (by rfl) v_MOST_SPEAKERS) (nomark _))))))
abbrev s_is_speaker_of : Stmt := topS 7
theorem sc_is_speaker_of : FnScope N_is_speaker_of ["speakers", "value"] (defScope s_is_speaker_of) := ⟨rfl, rfl, rfl, by decide +kernel, rfl, by decide +kernel, by decide +kernel⟩
theorem dv_is_speaker_of {P : Program} {w : World} {K : PySem.W.Frag} {mg : Str → Option Value} {base : Heap} {fa : Addr} {t_LAST_SPEAKER : Tok} (v_LAST_SPEAKER : mg "LAST_SPEAKER" = some (.int 19 t_LAST_SPEAKER)) (G_is_number : DFn P w K mg base CX0 1 "is_number" sp_is_number) (cdv : Value) (A : Around) (outer : List Env) (s : Shared) (H : Hp) (E : XK)
    (hr : Room 1 (A.deeper (envOfC "is_speaker_of" (defScope s_is_speaker_of) s.heap.objs.size fa cdv))) (hg : A.guards = some []) : DSs (cxOf CX0 P w K mg base N_is_speaker_of "is_speaker_of" (defScope s_is_speaker_of) fa cdv A outer s H E).nox (defBody s_is_speaker_of) rd_is_speaker_of := by
  have sc := sc_is_speaker_of
  have hu := room_hu hr
  exact (dss_one (dst_ret (de_and (de_fn G_is_number hg (hr.mono (by decide)) (by rfl) (da_cons (de_var (i := 1) rfl (by first | exact Or.inl rfl | exact Or.inr (Or.inl rfl) | exact Or.inr (Or.inr rfl) | exact Or.inr rfl)) (da_cons de_int (da_cons (de_globI (by rfl) v_LAST_SPEAKER) da_nil)))) (de_one (de_cmp (do_in hu) (de_var (i := 1) rfl (by first | exact Or.inl rfl | exact Or.inr (Or.inl rfl) | exact Or.inr (Or.inr rfl) | exact Or.inr rfl)) (de_var (i := 0) rfl (by first | exact Or.inl rfl | exact Or.inr (Or.inl rfl) | exact Or.inr (Or.inr rfl) | exact Or.inr rfl)) (by with_unfolding_all rfl))))))
abbrev s_is_attack_of : Stmt := topS 8
theorem sc_is_attack_of : FnScope N_is_attack_of ["speakers", "value"] (defScope s_is_attack_of) := ⟨rfl, rfl, rfl, by decide +kernel, rfl, by decide +kernel, by decide +kernel⟩
theorem dv_is_attack_of {P : Program} {w : World} {K : PySem.W.Frag} {mg : Str → Option Value} {base : Heap} {fa : Addr} (z_tuple : mg "tuple" = none) (z_isinstance : mg "isinstance" = none) (z_len : mg "len" = none) (G_is_speaker_of : DFn P w K mg base CX0 2 "is_speaker_of" sp_is_speaker_of) (cdv : Value) (A : Around) (outer : List Env) (s : Shared) (H : Hp) (E : XK)
    (hr : Room 2 (A.deeper (envOfC "is_attack_of" (defScope s_is_attack_of) s.heap.objs.size fa cdv))) (hg : A.guards = some []) : DSs (cxOf CX0 P w K mg base N_is_attack_of "is_attack_of" (defScope s_is_attack_of) fa cdv A outer s H E).nox (defBody s_is_attack_of) rd_is_attack_of := by
  have sc := sc_is_attack_of
  have hu := room_hu hr
  exact (dss_cons (dst_if (dt_w (dw_or (dt_not (dt_val (de_callB dc_isi (by rfl) z_isinstance bt_isinstance (da_cons (de_var (i := 1) rfl (by first | exact Or.inl rfl | exact Or.inr (Or.inl rfl) | exact Or.inr (Or.inr rfl) | exact Or.inr rfl)) (da_cons (de_ty (by rfl) z_tuple bt_tuple) da_nil))))) (dw_or1 (dt_cmp (do_ne hu) (de_callB dc_len (by rfl) z_len bt_len (da_cons (de_var (i := 1) rfl (by first | exact Or.inl rfl | exact Or.inr (Or.inl rfl) | exact Or.inr (Or.inr rfl) | exact Or.inr rfl)) da_nil)) de_int (nomark _))))) (dss_one (dst_ret de_bl)) dss_nil)
    (dss_one (dst_ret (de_and (de_fn G_is_speaker_of hg (hr.mono (by decide)) (by rfl) (da_cons (de_var (i := 0) rfl (by first | exact Or.inl rfl | exact Or.inr (Or.inl rfl) | exact Or.inr (Or.inr rfl) | exact Or.inr rfl)) (da_cons (de_ix (de_var (i := 1) rfl (by first | exact Or.inl rfl | exact Or.inr (Or.inl rfl) | exact Or.inr (Or.inr rfl) | exact Or.inr rfl)) de_int) da_nil))) (de_one (de_fn G_is_speaker_of hg (hr.mono (by decide)) (by rfl) (da_cons (de_var (i := 0) rfl (by first | exact Or.inl rfl | exact Or.inr (Or.inl rfl) | exact Or.inr (Or.inr rfl) | exact Or.inr rfl)) (da_cons (de_ix (de_var (i := 1) rfl (by first | exact Or.inl rfl | exact Or.inr (Or.inl rfl) | exact Or.inr (Or.inr rfl) | exact Or.inr rfl)) de_int) da_nil))))))))
abbrev s_are_attacks_of : Stmt := topS 9
theorem sc_are_attacks_of : FnScope N_are_attacks_of ["speakers", "value"] (defScope s_are_attacks_of) := ⟨rfl, rfl, rfl, by decide +kernel, rfl, by decide +kernel, by decide +kernel⟩
theorem dv_are_attacks_of {P : Program} {w : World} {K : PySem.W.Frag} {mg : Str → Option Value} {base : Heap} {fa : Addr} (z_tuple : mg "tuple" = none) (z_isinstance : mg "isinstance" = none) (z_all : mg "all" = none) (G_is_attack_of : DFn P w K mg base CX0 3 "is_attack_of" sp_is_attack_of) (G_rises : DFn P w K mg base CX0 1 "rises" sp_rises) (cdv : Value) (A : Around) (outer : List Env) (s : Shared) (H : Hp) (E : XK)
    (hr : Room 3 (A.deeper (envOfC "are_attacks_of" (defScope s_are_attacks_of) s.heap.objs.size fa cdv))) (hg : A.guards = some []) : DSs (cxOf CX0 P w K mg base N_are_attacks_of "are_attacks_of" (defScope s_are_attacks_of) fa cdv A outer s H E).nox (defBody s_are_attacks_of) rd_are_attacks_of := by
  have sc := sc_are_attacks_of
  have hu := room_hu hr
  exact (dss_one (dst_ret (de_and (de_callB dc_isi (by rfl) z_isinstance bt_isinstance (da_cons (de_var (i := 1) rfl (by first | exact Or.inl rfl | exact Or.inr (Or.inl rfl) | exact Or.inr (Or.inr rfl) | exact Or.inr rfl)) (da_cons (de_ty (by rfl) z_tuple bt_tuple) da_nil))) (de_and (de_callB (dc_all rfl) (by rfl) z_all bt_all (da_cons (de_comp (own := [("one", 2)]) rfl sc.nd (di_seq (de_var (i := 1) rfl (by first | exact Or.inl rfl | exact Or.inr (Or.inl rfl) | exact Or.inr (Or.inr rfl) | exact Or.inr rfl))) (blkOk_by (N := N_are_attacks_of) (sc := defScope (s_are_attacks_of)) (by decide +kernel)) (gin_name (i := 2) (by decide)) (fun _ _ _ _ _ => (pg_name (i := 2) sc.nd rfl (Or.inl rfl))) (fun _ _ _ _ _ => dts_nil) (fun _ _ _ _ _ => (de_fn G_is_attack_of hg (hr.mono (by decide)) (by rfl) (da_cons (de_var (i := 0) rfl (by first | exact Or.inl rfl | exact Or.inr (Or.inl rfl) | exact Or.inr (Or.inr rfl) | exact Or.inr rfl)) (da_cons (de_var (i := 2) rfl (by first | exact Or.inl rfl | exact Or.inr (Or.inl rfl) | exact Or.inr (Or.inr rfl) | exact Or.inr rfl)) da_nil))))) da_nil)) (de_one (de_fn G_rises hg (hr.mono (by decide)) (by rfl) (da_cons (de_var (i := 1) rfl (by first | exact Or.inl rfl | exact Or.inr (Or.inl rfl) | exact Or.inr (Or.inr rfl) | exact Or.inr rfl)) da_nil)))))))
abbrev s_is_debate : Stmt := topS 10
theorem sc_is_debate : FnScope N_is_debate ["value"] (defScope s_is_debate) := ⟨rfl, rfl, rfl, by decide +kernel, rfl, by decide +kernel, by decide +kernel⟩
theorem dv_is_debate {P : Program} {w : World} {K : PySem.W.Frag} {mg : Str → Option Value} {base : Heap} {fa : Addr} (z_tuple : mg "tuple" = none) (z_isinstance : mg "isinstance" = none) (z_len : mg "len" = none) (G_are_speakers : DFn P w K mg base CX0 3 "are_speakers" sp_are_speakers) (G_are_attacks_of : DFn P w K mg base CX0 4 "are_attacks_of" sp_are_attacks_of) (cdv : Value) (A : Around) (outer : List Env) (s : Shared) (H : Hp) (E : XK)
    (hr : Room 4 (A.deeper (envOfC "is_debate" (defScope s_is_debate) s.heap.objs.size fa cdv))) (hg : A.guards = some []) : DSs (cxOf CX0 P w K mg base N_is_debate "is_debate" (defScope s_is_debate) fa cdv A outer s H E).nox (defBody s_is_debate) rd_is_debate := by
  have sc := sc_is_debate
  have hu := room_hu hr
  exact (dss_cons (dst_if (dt_w (dw_or (dt_not (dt_val (de_callB dc_isi (by rfl) z_isinstance bt_isinstance (da_cons (de_var (i := 0) rfl (by first | exact Or.inl rfl | exact Or.inr (Or.inl rfl) | exact Or.inr (Or.inr rfl) | exact Or.inr rfl)) (da_cons (de_ty (by rfl) z_tuple bt_tuple) da_nil))))) (dw_or1 (dt_cmp (do_ne hu) (de_callB dc_len (by rfl) z_len bt_len (da_cons (de_var (i := 0) rfl (by first | exact Or.inl rfl | exact Or.inr (Or.inl rfl) | exact Or.inr (Or.inr rfl) | exact Or.inr rfl)) da_nil)) de_int (nomark _))))) (dss_one (dst_ret de_bl)) dss_nil)
    (dss_one (dst_ret (de_and (de_fn G_are_speakers hg (hr.mono (by decide)) (by rfl) (da_cons (de_ix (de_var (i := 0) rfl (by first | exact Or.inl rfl | exact Or.inr (Or.inl rfl) | exact Or.inr (Or.inr rfl) | exact Or.inr rfl)) de_int) da_nil)) (de_one (de_fn G_are_attacks_of hg (hr.mono (by decide)) (by rfl) (da_cons (de_ix (de_var (i := 0) rfl (by first | exact Or.inl rfl | exact Or.inr (Or.inl rfl) | exact Or.inr (Or.inr rfl) | exact Or.inr rfl)) de_int) (da_cons (de_ix (de_var (i := 0) rfl (by first | exact Or.inl rfl | exact Or.inr (Or.inl rfl) | exact Or.inr (Or.inr rfl) | exact Or.inr rfl)) de_int) da_nil))))))))
abbrev s_law : Stmt := topS 23
theorem sc_law : FnScope N_law ["_law_script"] (defScope s_law) := ⟨rfl, rfl, rfl, by decide +kernel, rfl, by decide +kernel, by decide +kernel⟩
theorem dv_law {P : Program} {w : World} {K : PySem.W.Frag} {mg : Str → Option Value} {base : Heap} {fa : Addr} (z_len : mg "len" = none) (z_min : mg "min" = none) (z_max : mg "max" = none) (z_range : mg "range" = none) (z_repr : mg "repr" = none) (G__law_pen : DFn P w K mg base CX0 1 "_law_pen" sp_law_pen) (G__law_cell : DFn P w K mg base CX0 1 "_law_cell" sp_law_cell) (G__law_draw : DFn P w K mg base CX0 1 "_law_draw" sp_law_draw) (G__law_near : DFn P w K mg base CX0 3 "_law_near" sp_law_near) (G__law_debate : DFn P w K mg base CX0 3 "_law_debate" sp_law_debate) (G__law_is_debate : DFn P w K mg base CX0 3 "_law_is_debate" sp_law_is_debate) (G__law_same : DFn P w K mg base CX0 1 "_law_same" sp_law_same) (G_is_debate : DFn P w K mg base CX0 5 "is_debate" sp_is_debate) (cdv : Value) (A : Around) (outer : List Env) (s : Shared) (H : Hp) (E : XK)
    (hr : Room 5 (A.deeper (envOfC "law" (defScope s_law) s.heap.objs.size fa cdv))) (hg : A.guards = some []) : DSs (cxOf CX0 P w K mg base N_law "law" (defScope s_law) fa cdv A outer s H E).nox (defBody s_law) rd_law := by
  have sc := sc_law
  have hu := room_hu hr
  exact (dss_cons (dst_for PassesOwn.never rfl (di_range1 (by rfl) z_range (da_cons (de_callB (dc_max2 rfl) (by rfl) z_max bt_max (da_cons de_int (da_cons (de_callB (dc_min2 rfl) (by rfl) z_min bt_min (da_cons (de_callB dc_len (by rfl) z_len bt_len (da_cons (de_var (i := 0) rfl (by first | exact Or.inl rfl | exact Or.inr (Or.inl rfl) | exact Or.inr (Or.inr rfl) | exact Or.inr rfl)) da_nil)) (da_cons de_int da_nil))) da_nil))) da_nil)) (dg_name (i := 1) sc.nd rfl (.inl rfl)) (dss_cons (dst_set (i := 2) sc.nd rfl (.inl rfl) (de_fn G__law_pen hg (hr.mono (by decide)) (by rfl) (da_cons (de_fn G__law_cell hg (hr.mono (by decide)) (by rfl) (da_cons (de_var (i := 0) rfl (by first | exact Or.inl rfl | exact Or.inr (Or.inl rfl) | exact Or.inr (Or.inr rfl) | exact Or.inr rfl)) (da_cons (de_var (i := 1) rfl (by first | exact Or.inl rfl | exact Or.inr (Or.inl rfl) | exact Or.inr (Or.inr rfl) | exact Or.inr rfl)) da_nil))) da_nil)))
    (dss_one (dst_for PassesOwn.never rfl (di_seq (de_lstF (da_cons (de_fn G__law_draw hg (hr.mono (by decide)) (by rfl) (da_cons (de_var (i := 2) rfl (by first | exact Or.inl rfl | exact Or.inr (Or.inl rfl) | exact Or.inr (Or.inr rfl) | exact Or.inr rfl)) (da_cons de_int da_nil))) (da_cons (de_fn G__law_draw hg (hr.mono (by decide)) (by rfl) (da_cons (de_var (i := 2) rfl (by first | exact Or.inl rfl | exact Or.inr (Or.inl rfl) | exact Or.inr (Or.inr rfl) | exact Or.inr rfl)) (da_cons de_int da_nil))) (da_cons de_int da_nil))))) (dg_name (i := 3) sc.nd rfl (.inl rfl)) (dss_one (dst_for PassesOwn.never rfl (di_seq (de_fn G__law_near hg (hr.mono (by decide)) (by rfl) (da_cons (de_var (i := 2) rfl (by first | exact Or.inl rfl | exact Or.inr (Or.inl rfl) | exact Or.inr (Or.inr rfl) | exact Or.inr rfl)) (da_cons (de_fn G__law_debate hg (hr.mono (by decide)) (by rfl) (da_cons (de_var (i := 2) rfl (by first | exact Or.inl rfl | exact Or.inr (Or.inl rfl) | exact Or.inr (Or.inr rfl) | exact Or.inr rfl)) (da_cons (de_var (i := 3) rfl (by first | exact Or.inl rfl | exact Or.inr (Or.inl rfl) | exact Or.inr (Or.inr rfl) | exact Or.inr rfl)) da_nil))) da_nil)))) (dg_name (i := 4) sc.nd rfl (.inl rfl)) (dss_cons (dst_par2 (i := 5) (j := 6) rfl sc.nd (da_cons (de_callB (dc_repr hu hg) (by rfl) z_repr bt_repr (da_cons (de_var (i := 4) rfl (by first | exact Or.inl rfl | exact Or.inr (Or.inl rfl) | exact Or.inr (Or.inr rfl) | exact Or.inr rfl)) da_nil)) (da_cons (de_fn G__law_is_debate hg (hr.mono (by decide)) (by rfl) (da_cons (de_var (i := 4) rfl (by first | exact Or.inl rfl | exact Or.inr (Or.inl rfl) | exact Or.inr (Or.inr rfl) | exact Or.inr rfl)) da_nil)) da_nil)) rfl rfl)
    (dss_one (dst_if (dt_w (dw_or (dt_not (dt_val (de_fn G__law_same hg (hr.mono (by decide)) (by rfl) (da_cons (de_lstF (da_cons (de_fn G_is_debate hg (hr.mono (by decide)) (by rfl) (da_cons (de_var (i := 4) rfl (by first | exact Or.inl rfl | exact Or.inr (Or.inl rfl) | exact Or.inr (Or.inr rfl) | exact Or.inr rfl)) da_nil)) (da_cons (de_fn G_is_debate hg (hr.mono (by decide)) (by rfl) (da_cons (de_var (i := 4) rfl (by first | exact Or.inl rfl | exact Or.inr (Or.inl rfl) | exact Or.inr (Or.inr rfl) | exact Or.inr rfl)) da_nil)) da_nil))) (da_cons (de_lstF (da_cons (de_var (i := 6) rfl (by first | exact Or.inl rfl | exact Or.inr (Or.inl rfl) | exact Or.inr (Or.inr rfl) | exact Or.inr rfl)) (da_cons (de_var (i := 6) rfl (by first | exact Or.inl rfl | exact Or.inr (Or.inl rfl) | exact Or.inr (Or.inr rfl) | exact Or.inr rfl)) da_nil))) da_nil))))) (dw_or1 (dt_cmp (do_ne hu) (de_callB (dc_repr hu hg) (by rfl) z_repr bt_repr (da_cons (de_var (i := 4) rfl (by first | exact Or.inl rfl | exact Or.inr (Or.inl rfl) | exact Or.inr (Or.inr rfl) | exact Or.inr rfl)) da_nil)) (de_var (i := 5) rfl (by first | exact Or.inl rfl | exact Or.inr (Or.inl rfl) | exact Or.inr (Or.inr rfl) | exact Or.inr rfl)) (nomark _))))) (dss_one (dst_ret de_bl)) dss_nil)))))))))
    (dss_one (dst_ret de_bl)))
theorem all_mk {l : PySem.W.OpenLaw} {w : World} {K : PySem.W.Frag} {h : Heap} {mg : Str → Option Value} {fa f1 f2 f3 f4 f5 f6 f7 f8 f9 f10 f11 f12 f13 f14 f15 f16 f17 f18 f19 f20 : Addr} (X : K.In h) (G : h.Ns mainGlobals mg) (hfa : mg "law" = some (.ref fa))
    {od1 an1 od2 an2 od3 an3 od4 an4 od5 an5 od6 an6 od7 an7 od8 an8 od9 an9 od10 an10 od11 an11 od12 an12 od13 an13 od14 an14 od15 an15 od16 an16 od17 an17 od18 an18 od19 an19 od20 an20 : Option Addr} {sl1 sl2 sl3 sl4 sl5 sl6 sl7 sl8 sl9 sl10 sl11 sl12 sl13 sl14 sl15 sl16 sl17 sl18 sl19 sl20 : Array (Option Value)} {oc1 kV1 dc1 pm1 cd1 ct1 oc2 kV2 dc2 pm2 cd2 ct2 oc3 kV3 dc3 pm3 cd3 ct3 oc4 kV4 dc4 pm4 cd4 ct4 oc5 kV5 dc5 pm5 cd5 ct5 oc6 kV6 dc6 pm6 cd6 ct6 oc7 kV7 dc7 pm7 cd7 ct7 oc8 kV8 dc8 pm8 cd8 ct8 oc9 kV9 dc9 pm9 cd9 ct9 oc10 kV10 dc10 pm10 cd10 ct10 oc11 kV11 dc11 pm11 cd11 ct11 oc12 kV12 dc12 pm12 cd12 ct12 oc13 kV13 dc13 pm13 cd13 ct13 oc14 kV14 dc14 pm14 cd14 ct14 oc15 kV15 dc15 pm15 cd15 ct15 oc16 kV16 dc16 pm16 cd16 ct16 oc17 kV17 dc17 pm17 cd17 ct17 oc18 kV18 dc18 pm18 cd18 ct18 oc19 kV19 dc19 pm19 cd19 ct19 oc20 kV20 dc20 pm20 cd20 ct20 : Value} {t_LAST_SPEAKER t_MOST_SPEAKERS : Tok}
    (a1 : PySem.W.nsIn K mainGlobals "_law_pen" = some (some (.ref f1))) (l1 : K.lookup f1 = some ⟨oc1, od1, .func (PySem.W.fnOf "_law_pen" "_law_pen" (defArgs s__law_pen) (defBody s__law_pen) (defScope s__law_pen) .none kV1 dc1 pm1 an1 cd1 ct1), sl1⟩) (c1 : PySem.W.codeIn K cd1 "_law_pen" = true) (k1 : PySem.W.keepIn K (.ref f1) = true)
    (a2 : PySem.W.nsIn K mainGlobals "_law_cell" = some (some (.ref f2))) (l2 : K.lookup f2 = some ⟨oc2, od2, .func (PySem.W.fnOf "_law_cell" "_law_cell" (defArgs s__law_cell) (defBody s__law_cell) (defScope s__law_cell) .none kV2 dc2 pm2 an2 cd2 ct2), sl2⟩) (c2 : PySem.W.codeIn K cd2 "_law_cell" = true) (k2 : PySem.W.keepIn K (.ref f2) = true)
    (a3 : PySem.W.nsIn K mainGlobals "_law_draw" = some (some (.ref f3))) (l3 : K.lookup f3 = some ⟨oc3, od3, .func (PySem.W.fnOf "_law_draw" "_law_draw" (defArgs s__law_draw) (defBody s__law_draw) (defScope s__law_draw) .none kV3 dc3 pm3 an3 cd3 ct3), sl3⟩) (c3 : PySem.W.codeIn K cd3 "_law_draw" = true) (k3 : PySem.W.keepIn K (.ref f3) = true)
    (a4 : PySem.W.nsIn K mainGlobals "_law_odd" = some (some (.ref f4))) (l4 : K.lookup f4 = some ⟨oc4, od4, .func (PySem.W.fnOf "_law_odd" "_law_odd" (defArgs s__law_odd) (defBody s__law_odd) (defScope s__law_odd) .none kV4 dc4 pm4 an4 cd4 ct4), sl4⟩) (c4 : PySem.W.codeIn K cd4 "_law_odd" = true) (k4 : PySem.W.keepIn K (.ref f4) = true)
    (a5 : PySem.W.nsIn K mainGlobals "_law_near" = some (some (.ref f5))) (l5 : K.lookup f5 = some ⟨oc5, od5, .func (PySem.W.fnOf "_law_near" "_law_near" (defArgs s__law_near) (defBody s__law_near) (defScope s__law_near) .none kV5 dc5 pm5 an5 cd5 ct5), sl5⟩) (c5 : PySem.W.codeIn K cd5 "_law_near" = true) (k5 : PySem.W.keepIn K (.ref f5) = true)
    (a6 : PySem.W.nsIn K mainGlobals "_law_speakers" = some (some (.ref f6))) (l6 : K.lookup f6 = some ⟨oc6, od6, .func (PySem.W.fnOf "_law_speakers" "_law_speakers" (defArgs s__law_speakers) (defBody s__law_speakers) (defScope s__law_speakers) .none kV6 dc6 pm6 an6 cd6 ct6), sl6⟩) (c6 : PySem.W.codeIn K cd6 "_law_speakers" = true) (k6 : PySem.W.keepIn K (.ref f6) = true)
    (a7 : PySem.W.nsIn K mainGlobals "_law_debate" = some (some (.ref f7))) (l7 : K.lookup f7 = some ⟨oc7, od7, .func (PySem.W.fnOf "_law_debate" "_law_debate" (defArgs s__law_debate) (defBody s__law_debate) (defScope s__law_debate) .none kV7 dc7 pm7 an7 cd7 ct7), sl7⟩) (c7 : PySem.W.codeIn K cd7 "_law_debate" = true) (k7 : PySem.W.keepIn K (.ref f7) = true)
    (a8 : PySem.W.nsIn K mainGlobals "_law_is_number" = some (some (.ref f8))) (l8 : K.lookup f8 = some ⟨oc8, od8, .func (PySem.W.fnOf "_law_is_number" "_law_is_number" (defArgs s__law_is_number) (defBody s__law_is_number) (defScope s__law_is_number) .none kV8 dc8 pm8 an8 cd8 ct8), sl8⟩) (c8 : PySem.W.codeIn K cd8 "_law_is_number" = true) (k8 : PySem.W.keepIn K (.ref f8) = true)
    (a9 : PySem.W.nsIn K mainGlobals "_law_is_set" = some (some (.ref f9))) (l9 : K.lookup f9 = some ⟨oc9, od9, .func (PySem.W.fnOf "_law_is_set" "_law_is_set" (defArgs s__law_is_set) (defBody s__law_is_set) (defScope s__law_is_set) .none kV9 dc9 pm9 an9 cd9 ct9), sl9⟩) (c9 : PySem.W.codeIn K cd9 "_law_is_set" = true) (k9 : PySem.W.keepIn K (.ref f9) = true)
    (a10 : PySem.W.nsIn K mainGlobals "_law_is_debate" = some (some (.ref f10))) (l10 : K.lookup f10 = some ⟨oc10, od10, .func (PySem.W.fnOf "_law_is_debate" "_law_is_debate" (defArgs s__law_is_debate) (defBody s__law_is_debate) (defScope s__law_is_debate) .none kV10 dc10 pm10 an10 cd10 ct10), sl10⟩) (c10 : PySem.W.codeIn K cd10 "_law_is_debate" = true) (k10 : PySem.W.keepIn K (.ref f10) = true)
    (a11 : PySem.W.nsIn K mainGlobals "_law_same" = some (some (.ref f11))) (l11 : K.lookup f11 = some ⟨oc11, od11, .func (PySem.W.fnOf "_law_same" "_law_same" (defArgs s__law_same) (defBody s__law_same) (defScope s__law_same) .none kV11 dc11 pm11 an11 cd11 ct11), sl11⟩) (c11 : PySem.W.codeIn K cd11 "_law_same" = true) (k11 : PySem.W.keepIn K (.ref f11) = true)
    (a12 : PySem.W.nsIn K mainGlobals "is_number" = some (some (.ref f12))) (l12 : K.lookup f12 = some ⟨oc12, od12, .func (PySem.W.fnOf "is_number" "is_number" (defArgs s_is_number) (defBody s_is_number) (defScope s_is_number) .none kV12 dc12 pm12 an12 cd12 ct12), sl12⟩) (c12 : PySem.W.codeIn K cd12 "is_number" = true) (k12 : PySem.W.keepIn K (.ref f12) = true)
    (a13 : PySem.W.nsIn K mainGlobals "rises" = some (some (.ref f13))) (l13 : K.lookup f13 = some ⟨oc13, od13, .func (PySem.W.fnOf "rises" "rises" (defArgs s_rises) (defBody s_rises) (defScope s_rises) .none kV13 dc13 pm13 an13 cd13 ct13), sl13⟩) (c13 : PySem.W.codeIn K cd13 "rises" = true) (k13 : PySem.W.keepIn K (.ref f13) = true)
    (a14 : PySem.W.nsIn K mainGlobals "is_set" = some (some (.ref f14))) (l14 : K.lookup f14 = some ⟨oc14, od14, .func (PySem.W.fnOf "is_set" "is_set" (defArgs s_is_set) (defBody s_is_set) (defScope s_is_set) .none kV14 dc14 pm14 an14 cd14 ct14), sl14⟩) (c14 : PySem.W.codeIn K cd14 "is_set" = true) (k14 : PySem.W.keepIn K (.ref f14) = true)
    (a15 : PySem.W.nsIn K mainGlobals "are_speakers" = some (some (.ref f15))) (l15 : K.lookup f15 = some ⟨oc15, od15, .func (PySem.W.fnOf "are_speakers" "are_speakers" (defArgs s_are_speakers) (defBody s_are_speakers) (defScope s_are_speakers) .none kV15 dc15 pm15 an15 cd15 ct15), sl15⟩) (c15 : PySem.W.codeIn K cd15 "are_speakers" = true) (k15 : PySem.W.keepIn K (.ref f15) = true)
    (a16 : PySem.W.nsIn K mainGlobals "is_speaker_of" = some (some (.ref f16))) (l16 : K.lookup f16 = some ⟨oc16, od16, .func (PySem.W.fnOf "is_speaker_of" "is_speaker_of" (defArgs s_is_speaker_of) (defBody s_is_speaker_of) (defScope s_is_speaker_of) .none kV16 dc16 pm16 an16 cd16 ct16), sl16⟩) (c16 : PySem.W.codeIn K cd16 "is_speaker_of" = true) (k16 : PySem.W.keepIn K (.ref f16) = true)
    (a17 : PySem.W.nsIn K mainGlobals "is_attack_of" = some (some (.ref f17))) (l17 : K.lookup f17 = some ⟨oc17, od17, .func (PySem.W.fnOf "is_attack_of" "is_attack_of" (defArgs s_is_attack_of) (defBody s_is_attack_of) (defScope s_is_attack_of) .none kV17 dc17 pm17 an17 cd17 ct17), sl17⟩) (c17 : PySem.W.codeIn K cd17 "is_attack_of" = true) (k17 : PySem.W.keepIn K (.ref f17) = true)
    (a18 : PySem.W.nsIn K mainGlobals "are_attacks_of" = some (some (.ref f18))) (l18 : K.lookup f18 = some ⟨oc18, od18, .func (PySem.W.fnOf "are_attacks_of" "are_attacks_of" (defArgs s_are_attacks_of) (defBody s_are_attacks_of) (defScope s_are_attacks_of) .none kV18 dc18 pm18 an18 cd18 ct18), sl18⟩) (c18 : PySem.W.codeIn K cd18 "are_attacks_of" = true) (k18 : PySem.W.keepIn K (.ref f18) = true)
    (a19 : PySem.W.nsIn K mainGlobals "is_debate" = some (some (.ref f19))) (l19 : K.lookup f19 = some ⟨oc19, od19, .func (PySem.W.fnOf "is_debate" "is_debate" (defArgs s_is_debate) (defBody s_is_debate) (defScope s_is_debate) .none kV19 dc19 pm19 an19 cd19 ct19), sl19⟩) (c19 : PySem.W.codeIn K cd19 "is_debate" = true) (k19 : PySem.W.keepIn K (.ref f19) = true)
    (a20 : PySem.W.nsIn K mainGlobals "law" = some (some (.ref f20))) (l20 : K.lookup f20 = some ⟨oc20, od20, .func (PySem.W.fnOf "law" "law" (defArgs s_law) (defBody s_law) (defScope s_law) .none kV20 dc20 pm20 an20 cd20 ct20), sl20⟩) (c20 : PySem.W.codeIn K cd20 "law" = true) (k20 : PySem.W.keepIn K (.ref f20) = true)
    (y_max : PySem.W.nsIn K mainGlobals "max" = some none)
    (y_len : PySem.W.nsIn K mainGlobals "len" = some none)
    (y_list : PySem.W.nsIn K mainGlobals "list" = some none)
    (y_range : PySem.W.nsIn K mainGlobals "range" = some none)
    (y_tuple : PySem.W.nsIn K mainGlobals "tuple" = some none)
    (y_sorted : PySem.W.nsIn K mainGlobals "sorted" = some none)
    (y_int : PySem.W.nsIn K mainGlobals "int" = some none)
    (y_isinstance : PySem.W.nsIn K mainGlobals "isinstance" = some none)
    (y_bool : PySem.W.nsIn K mainGlobals "bool" = some none)
    (y_repr : PySem.W.nsIn K mainGlobals "repr" = some none)
    (y_zip : PySem.W.nsIn K mainGlobals "zip" = some none)
    (y_all : PySem.W.nsIn K mainGlobals "all" = some none)
    (y_min : PySem.W.nsIn K mainGlobals "min" = some none)
    (x_LAST_SPEAKER : PySem.W.nsIn K mainGlobals "LAST_SPEAKER" = some (some (.int 19 t_LAST_SPEAKER)))
    (x_MOST_SPEAKERS : PySem.W.nsIn K mainGlobals "MOST_SPEAKERS" = some (some (.int 15 t_MOST_SPEAKERS)))
    : ∃ (fd : FuncData) (ps : List Str), Binds K fd ps [] ∧ ∀ base : Heap, K.In base → base.Ns mainGlobals mg → FnG l.prog w K mg base CX0 6 fa fd ps (lSp K sp_law) := by
  have e := hfa.symm.trans (PySem.W.mg_of X G a20)
  cases e
  have z_max := PySem.W.mg_none_of X G y_max
  have z_len := PySem.W.mg_none_of X G y_len
  have z_list := PySem.W.mg_none_of X G y_list
  have z_range := PySem.W.mg_none_of X G y_range
  have z_tuple := PySem.W.mg_none_of X G y_tuple
  have z_sorted := PySem.W.mg_none_of X G y_sorted
  have z_int := PySem.W.mg_none_of X G y_int
  have z_isinstance := PySem.W.mg_none_of X G y_isinstance
  have z_bool := PySem.W.mg_none_of X G y_bool
  have z_repr := PySem.W.mg_none_of X G y_repr
  have z_zip := PySem.W.mg_none_of X G y_zip
  have z_all := PySem.W.mg_none_of X G y_all
  have z_min := PySem.W.mg_none_of X G y_min
  have v_LAST_SPEAKER := PySem.W.mg_of X G x_LAST_SPEAKER
  have v_MOST_SPEAKERS := PySem.W.mg_of X G x_MOST_SPEAKERS
  have F1 := fun_mk (st := s__law_pen) l1 c1 k1
  have b1 := F1.binds (ps := ["_law_cell_here"]) fun _ _ _ _ _ _ us hl => match us, hl with | [_], _ => rfl
  have F2 := fun_mk (st := s__law_cell) l2 c2 k2
  have b2 := F2.binds (ps := ["_law_script", "_law_k"]) fun _ _ _ _ _ _ us hl => match us, hl with | [_, _], _ => rfl
  have F3 := fun_mk (st := s__law_draw) l3 c3 k3
  have b3 := F3.binds (ps := ["_law_pen_here", "_law_many"]) fun _ _ _ _ _ _ us hl => match us, hl with | [_, _], _ => rfl
  have F4 := fun_mk (st := s__law_odd) l4 c4 k4
  have b4 := F4.binds (ps := ["_law_pen_here"]) fun _ _ _ _ _ _ us hl => match us, hl with | [_], _ => rfl
  have F5 := fun_mk (st := s__law_near) l5 c5 k5
  have b5 := F5.binds (ps := ["_law_pen_here", "_law_debate_here"]) fun _ _ _ _ _ _ us hl => match us, hl with | [_, _], _ => rfl
  have F6 := fun_mk (st := s__law_speakers) l6 c6 k6
  have b6 := F6.binds (ps := ["_law_pen_here", "_law_many"]) fun _ _ _ _ _ _ us hl => match us, hl with | [_, _], _ => rfl
  have F7 := fun_mk (st := s__law_debate) l7 c7 k7
  have b7 := F7.binds (ps := ["_law_pen_here", "_law_many"]) fun _ _ _ _ _ _ us hl => match us, hl with | [_, _], _ => rfl
  have F8 := fun_mk (st := s__law_is_number) l8 c8 k8
  have b8 := F8.binds (ps := ["_law_value", "_law_last"]) fun _ _ _ _ _ _ us hl => match us, hl with | [_, _], _ => rfl
  have F9 := fun_mk (st := s__law_is_set) l9 c9 k9
  have b9 := F9.binds (ps := ["_law_value", "_law_last"]) fun _ _ _ _ _ _ us hl => match us, hl with | [_, _], _ => rfl
  have F10 := fun_mk (st := s__law_is_debate) l10 c10 k10
  have b10 := F10.binds (ps := ["_law_value"]) fun _ _ _ _ _ _ us hl => match us, hl with | [_], _ => rfl
  have F11 := fun_mk (st := s__law_same) l11 c11 k11
  have b11 := F11.binds (ps := ["_law_actual", "_law_due"]) fun _ _ _ _ _ _ us hl => match us, hl with | [_, _], _ => rfl
  have F12 := fun_mk (st := s_is_number) l12 c12 k12
  have b12 := F12.binds (ps := ["value", "low", "high"]) fun _ _ _ _ _ _ us hl => match us, hl with | [_, _, _], _ => rfl
  have F13 := fun_mk (st := s_rises) l13 c13 k13
  have b13 := F13.binds (ps := ["row"]) fun _ _ _ _ _ _ us hl => match us, hl with | [_], _ => rfl
  have F14 := fun_mk (st := s_is_set) l14 c14 k14
  have b14 := F14.binds (ps := ["value", "last"]) fun _ _ _ _ _ _ us hl => match us, hl with | [_, _], _ => rfl
  have F15 := fun_mk (st := s_are_speakers) l15 c15 k15
  have b15 := F15.binds (ps := ["value"]) fun _ _ _ _ _ _ us hl => match us, hl with | [_], _ => rfl
  have F16 := fun_mk (st := s_is_speaker_of) l16 c16 k16
  have b16 := F16.binds (ps := ["speakers", "value"]) fun _ _ _ _ _ _ us hl => match us, hl with | [_, _], _ => rfl
  have F17 := fun_mk (st := s_is_attack_of) l17 c17 k17
  have b17 := F17.binds (ps := ["speakers", "value"]) fun _ _ _ _ _ _ us hl => match us, hl with | [_, _], _ => rfl
  have F18 := fun_mk (st := s_are_attacks_of) l18 c18 k18
  have b18 := F18.binds (ps := ["speakers", "value"]) fun _ _ _ _ _ _ us hl => match us, hl with | [_, _], _ => rfl
  have F19 := fun_mk (st := s_is_debate) l19 c19 k19
  have b19 := F19.binds (ps := ["value"]) fun _ _ _ _ _ _ us hl => match us, hl with | [_], _ => rfl
  have F20 := fun_mk (st := s_law) l20 c20 k20
  have b20 := F20.binds (ps := ["_law_script"]) fun _ _ _ _ _ _ us hl => match us, hl with | [_], _ => rfl
  refine ⟨_, _, b20, fun base KB gB => ?_⟩
  have G__law_pen : DFn l.prog w K mg base CX0 1 "_law_pen" sp_law_pen := DFn.mk0 F1 (PySem.W.mg_of X G a1) sc__law_pen b1 tk_law_pen rfl (dv__law_pen z_max) ct_law_pen
  have G__law_cell : DFn l.prog w K mg base CX0 1 "_law_cell" sp_law_cell := DFn.mk0 F2 (PySem.W.mg_of X G a2) sc__law_cell b2 tk_law_cell rfl (dv__law_cell z_len) ct_law_cell
  have G__law_draw : DFn l.prog w K mg base CX0 1 "_law_draw" sp_law_draw := DFn.mk0 F3 (PySem.W.mg_of X G a3) sc__law_draw b3 tk_law_draw rfl (dv__law_draw) ct_law_draw
  have G__law_odd : DFn l.prog w K mg base CX0 2 "_law_odd" sp_law_odd := DFn.mk0 F4 (PySem.W.mg_of X G a4) sc__law_odd b4 tk_law_odd rfl (dv__law_odd G__law_draw) ct_law_odd
  have G__law_near : DFn l.prog w K mg base CX0 3 "_law_near" sp_law_near := DFn.mk0 F5 (PySem.W.mg_of X G a5) sc__law_near b5 tk_law_near rfl (dv__law_near z_list z_len z_range z_tuple G__law_draw G__law_odd) ct_law_near
  have G__law_speakers : DFn l.prog w K mg base CX0 2 "_law_speakers" sp_law_speakers := DFn.mk0 F6 (PySem.W.mg_of X G a6) sc__law_speakers b6 tk_law_speakers rfl (dv__law_speakers z_len z_sorted z_tuple G__law_draw) ct_law_speakers
  have G__law_debate : DFn l.prog w K mg base CX0 3 "_law_debate" sp_law_debate := DFn.mk0 F7 (PySem.W.mg_of X G a7) sc__law_debate b7 tk_law_debate rfl (dv__law_debate z_int z_sorted z_tuple G__law_draw G__law_speakers) ct_law_debate
  have G__law_is_number : DFn l.prog w K mg base CX0 1 "_law_is_number" sp_law_is_number := DFn.mk0 F8 (PySem.W.mg_of X G a8) sc__law_is_number b8 tk_law_is_number rfl (dv__law_is_number z_int z_isinstance z_bool) ct_law_is_number
  have G__law_is_set : DFn l.prog w K mg base CX0 2 "_law_is_set" sp_law_is_set := DFn.mk0 F9 (PySem.W.mg_of X G a9) sc__law_is_set b9 tk_law_is_set rfl (dv__law_is_set z_tuple z_isinstance z_list z_range G__law_is_number) ct_law_is_set
  have G__law_is_debate : DFn l.prog w K mg base CX0 3 "_law_is_debate" sp_law_is_debate := DFn.mk0 F10 (PySem.W.mg_of X G a10) sc__law_is_debate b10 tk_law_is_debate rfl (dv__law_is_debate z_tuple z_isinstance z_len z_list z_sorted G__law_is_set G__law_is_number) ct_law_is_debate
  have G__law_same : DFn l.prog w K mg base CX0 1 "_law_same" sp_law_same := DFn.mk0 F11 (PySem.W.mg_of X G a11) sc__law_same b11 tk_law_same rfl (dv__law_same z_repr) ct_law_same
  have G_is_number : DFn l.prog w K mg base CX0 1 "is_number" sp_is_number := DFn.mk0 F12 (PySem.W.mg_of X G a12) sc_is_number b12 tk_is_number rfl (dv_is_number z_int z_isinstance z_bool) ct_is_number
  have G_rises : DFn l.prog w K mg base CX0 1 "rises" sp_rises := DFn.mk0 F13 (PySem.W.mg_of X G a13) sc_rises b13 tk_rises rfl (dv_rises z_zip z_all) ct_rises
  have G_is_set : DFn l.prog w K mg base CX0 2 "is_set" sp_is_set := DFn.mk0 F14 (PySem.W.mg_of X G a14) sc_is_set b14 tk_is_set rfl (dv_is_set z_tuple z_isinstance z_all G_is_number G_rises) ct_is_set
  have G_are_speakers : DFn l.prog w K mg base CX0 3 "are_speakers" sp_are_speakers := DFn.mk0 F15 (PySem.W.mg_of X G a15) sc_are_speakers b15 tk_are_speakers rfl (dv_are_speakers z_len v_LAST_SPEAKER v_MOST_SPEAKERS G_is_set) ct_are_speakers
  have G_is_speaker_of : DFn l.prog w K mg base CX0 2 "is_speaker_of" sp_is_speaker_of := DFn.mk0 F16 (PySem.W.mg_of X G a16) sc_is_speaker_of b16 tk_is_speaker_of rfl (dv_is_speaker_of v_LAST_SPEAKER G_is_number) ct_is_speaker_of
  have G_is_attack_of : DFn l.prog w K mg base CX0 3 "is_attack_of" sp_is_attack_of := DFn.mk0 F17 (PySem.W.mg_of X G a17) sc_is_attack_of b17 tk_is_attack_of rfl (dv_is_attack_of z_tuple z_isinstance z_len G_is_speaker_of) ct_is_attack_of
  have G_are_attacks_of : DFn l.prog w K mg base CX0 4 "are_attacks_of" sp_are_attacks_of := DFn.mk0 F18 (PySem.W.mg_of X G a18) sc_are_attacks_of b18 tk_are_attacks_of rfl (dv_are_attacks_of z_tuple z_isinstance z_all G_is_attack_of G_rises) ct_are_attacks_of
  have G_is_debate : DFn l.prog w K mg base CX0 5 "is_debate" sp_is_debate := DFn.mk0 F19 (PySem.W.mg_of X G a19) sc_is_debate b19 tk_is_debate rfl (dv_is_debate z_tuple z_isinstance z_len G_are_speakers G_are_attacks_of) ct_is_debate
  exact FnG.mk0 F20 sc_law tk_law rfl (dv_law z_len z_min z_max z_range z_repr G__law_pen G__law_cell G__law_draw G__law_near G__law_debate G__law_is_debate G__law_same G_is_debate) ct_law
theorem law_ok : LawSp 63 sp_law := fun ns _ => ⟨ns, rfl, rfl⟩
end LawK
open PySem PySem.W PyProof.Rows
set_option maxHeartbeats 0 in
theorem PySem.Challenge.cw_standsets_k01_debates_recognized_holds : PySem.Challenge.rw_standsets_k01_debates_recognized.Holds := by
  w_on; o_law; k_head; (case hw => w_witness2)
  k_fill
  refine DL.walk_ofG (l := PySem.Challenge.rw_standsets_k01_debates_recognized) (n := 63) (k := 6) (sp := DL.sp_law) rfl (by decide) rfl ⟨rfl, by decide, by decide⟩ (fun w h Y => PySem.W.kIn_of Y) ?F LawK.law_ok
  case F =>
    intro w mg fa h KX G hmg
    refine' LawK.all_mk KX G hmg ?a1 ?l1 ?c1 ?k1 ?a2 ?l2 ?c2 ?k2 ?a3 ?l3 ?c3 ?k3 ?a4 ?l4 ?c4 ?k4 ?a5 ?l5 ?c5 ?k5 ?a6 ?l6 ?c6 ?k6 ?a7 ?l7 ?c7 ?k7 ?a8 ?l8 ?c8 ?k8 ?a9 ?l9 ?c9 ?k9 ?a10 ?l10 ?c10 ?k10 ?a11 ?l11 ?c11 ?k11 ?a12 ?l12 ?c12 ?k12 ?a13 ?l13 ?c13 ?k13 ?a14 ?l14 ?c14 ?k14 ?a15 ?l15 ?c15 ?k15 ?a16 ?l16 ?c16 ?k16 ?a17 ?l17 ?c17 ?k17 ?a18 ?l18 ?c18 ?k18 ?a19 ?l19 ?c19 ?k19 ?a20 ?l20 ?c20 ?k20 ?y_max ?y_len ?y_list ?y_range ?y_tuple ?y_sorted ?y_int ?y_isinstance ?y_bool ?y_repr ?y_zip ?y_all ?y_min ?x_LAST_SPEAKER ?x_MOST_SPEAKERS
    (case a1 => k_is); (case l1 => k_is); (case c1 => k_is); (case k1 => k_is); (case a2 => k_is); (case l2 => k_is); (case c2 => k_is); (case k2 => k_is); (case a3 => k_is); (case l3 => k_is); (case c3 => k_is); (case k3 => k_is); (case a4 => k_is); (case l4 => k_is); (case c4 => k_is); (case k4 => k_is); (case a5 => k_is); (case l5 => k_is); (case c5 => k_is); (case k5 => k_is); (case a6 => k_is); (case l6 => k_is); (case c6 => k_is); (case k6 => k_is); (case a7 => k_is); (case l7 => k_is); (case c7 => k_is); (case k7 => k_is); (case a8 => k_is); (case l8 => k_is); (case c8 => k_is); (case k8 => k_is); (case a9 => k_is); (case l9 => k_is); (case c9 => k_is); (case k9 => k_is); (case a10 => k_is); (case l10 => k_is); (case c10 => k_is); (case k10 => k_is); (case a11 => k_is); (case l11 => k_is); (case c11 => k_is); (case k11 => k_is); (case a12 => k_is); (case l12 => k_is); (case c12 => k_is); (case k12 => k_is); (case a13 => k_is); (case l13 => k_is); (case c13 => k_is); (case k13 => k_is); (case a14 => k_is); (case l14 => k_is); (case c14 => k_is); (case k14 => k_is); (case a15 => k_is); (case l15 => k_is); (case c15 => k_is); (case k15 => k_is); (case a16 => k_is); (case l16 => k_is); (case c16 => k_is); (case k16 => k_is); (case a17 => k_is); (case l17 => k_is); (case c17 => k_is); (case k17 => k_is); (case a18 => k_is); (case l18 => k_is); (case c18 => k_is); (case k18 => k_is); (case a19 => k_is); (case l19 => k_is); (case c19 => k_is); (case k19 => k_is); (case a20 => k_is); (case l20 => k_is); (case c20 => k_is); (case k20 => k_is); (case y_max => k_is); (case y_len => k_is); (case y_list => k_is); (case y_range => k_is); (case y_tuple => k_is); (case y_sorted => k_is); (case y_int => k_is); (case y_isinstance => k_is); (case y_bool => k_is); (case y_repr => k_is); (case y_zip => k_is); (case y_all => k_is); (case y_min => k_is); (case x_LAST_SPEAKER => k_is); (case x_MOST_SPEAKERS => k_is)
end
