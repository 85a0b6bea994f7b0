import PyProof.Rows.All
import Wide.All
import OpenK.AllK
import Wide.FinOn
import HandS.Base
import HandS.Call
import HandS.List
import HandS.Comp
import HandS.Dict
import HandS.Iter
import HandS.Walk
import HandS.Words
import HandS.IsInst
import HandS.Lambda
import HandS.Nested
import KE.KDictKeyed
import KE.SortData
import KE.DataMinMax
import KE.DataEq
import KE.DataIsa
import KE.DatumOrd
import HandS.EndTab
import HandS.TupAny
import HandS.Style
import HandS.Conv
import HandS.Strs
import HandS.Zip
import HandS.AnyAll
import HandS.TupLen
import HandS.SetFor
import PyProof.LongRange
import KE.GoesEnum
import PyProof.PassesOwn
import HandS.Star
import HandS.More
import KE.KEqNest
import KE.KStateDown
import Lean
import HandS.Ends
import HandS.WordsExc
import HandS.Defaults
import HandS.Head0
import HandS.Head1
import HandS.Head2
import HandS.HeadEnd
import HandS.HeadHook1
import HandS.HeadHook2
import HandS.HeadHook3
import HandS.HeadHook4
import PySem.Challenge.RW_everybill_k26_whole_claims_spoilt_anywhe
import HandS.NestedK
set_option Elab.async false
set_option linter.all false
set_option maxRecDepth 100000
set_option maxHeartbeats 4000000
namespace K26
open PySem PySem.Spec PyProof.Rows L2

/-! ### a value v bears a datum d -/
/-- a dict whose keys are nested tuples, entry by entry -/
def dicO (P : Program) (w : World) (a : Addr) (xs : List (NestedKey × Addr × Value)) (ep : Nat) : HO :=
  .ext fun h => ∃ o es, h.get? a = some o ∧ o.ExactDict ∧ o.data = .dict es ep ∧ es.toList = xs.map (entryOfKey (nestedKind P w))
/-- a tuple of the written part -/
def KTup (K : PySem.W.Frag) (a : Addr) (xs : List V) : Prop :=
  ∃ (o : Obj) (its : Array Value) (n : Nat), K.lookup a = some o ∧ o.cls = .type "tuple" ∧ o.data = .seq its n ∧ its.size ≤ sizeLine ∧ Vals xs its.toList
/-- what the proof is over: the program, the world, the written part -/
structure Gl0 where
  P : Program
  w : World
  K : PySem.W.Frag
mutual
inductive At (G : Gl0) (M : Addr → Prop) (H : Hp) : V → PyData → Prop
  | non : At G M H .non .none
  | bl (b : Bool) : At G M H (.bl b) (.bool b)
  | int (i : Int) : At G M H (.int i) (.int i)
  | str (x : Str) : At G M H (.str x) (.str x)
  | lst {a : Addr} {xs : List V} {ds : List PyData} : ¬ M a → H a = some (.lst xs) → ds.length ≤ sizeLine → AtL G M H xs ds → At G M H (.ref a) (.list ds)
  | tup {a : Addr} {xs : List V} {ds : List PyData} : (¬ M a ∧ H a = some (.tup xs)) ∨ KTup G.K a xs → ds.length ≤ sizeLine → AtL G M H xs ds → At G M H (.ref a) (.tuple ds)
  | dic {a : Addr} {xs : List (NestedKey × Addr × Value)} {kvs : List (PyData × PyData)} {ep : Nat} : ¬ M a → (a == sysModules) = false → H a = some (dicO G.P G.w a xs ep) → (xs.map (·.1)).Nodup → kvs.length ≤ sizeLine →
      AtD G M H xs kvs → At G M H (.ref a) (.dict kvs)
inductive AtL (G : Gl0) (M : Addr → Prop) (H : Hp) : List V → List PyData → Prop
  | nil : AtL G M H [] []
  | cons {v : V} {vs : List V} {d : PyData} {ds : List PyData} : At G M H v d → AtL G M H vs ds → AtL G M H (v :: vs) (d :: ds)
inductive AtD (G : Gl0) (M : Addr → Prop) (H : Hp) : List (NestedKey × Addr × Value) → List (PyData × PyData) → Prop
  | nil : AtD G M H [] []
  | cons {k : NestedKey} {b : Addr} {u : Value} {v : V} {d : PyData} {xs : List (NestedKey × Addr × Value)} {kvs : List (PyData × PyData)} :
      At G M H (.ref b) k.data → k.depth ≤ 8 → RelV v u → At G M H v d → AtD G M H xs kvs → AtD G M H ((k, b, u) :: xs) ((k.data, d) :: kvs)
end
/-- the same, the object itself may be one that is changed -/
inductive AtH (G : Gl0) (M : Addr → Prop) (H : Hp) : V → PyData → Prop
  | of {v : V} {d : PyData} : At G M H v d → AtH G M H v d
  | lst {a : Addr} {xs : List V} {ds : List PyData} : H a = some (.lst xs) → ds.length ≤ sizeLine → AtL G M H xs ds → AtH G M H (.ref a) (.list ds)
  | dic {a : Addr} {xs : List (NestedKey × Addr × Value)} {kvs : List (PyData × PyData)} {ep : Nat} : (a == sysModules) = false → H a = some (dicO G.P G.w a xs ep) → (xs.map (·.1)).Nodup → kvs.length ≤ sizeLine →
      AtD G M H xs kvs → AtH G M H (.ref a) (.dict kvs)

section
variable {G : Gl0} {M M' : Addr → Prop} {H H' : Hp}
/-- from (M, H) to (M', H'): what is not avoided stays, and is not avoided then -/
def Fut (M M' : Addr → Prop) (H H' : Hp) : Prop := ∀ a o, ¬ M a → H a = some o → H' a = some o ∧ ¬ M' a
mutual
theorem At.fut (f : Fut M M' H H') : ∀ {v : V} {d : PyData}, At G M H v d → At G M' H' v d
  | _, _, .non => .non
  | _, _, .bl b => .bl b
  | _, _, .int i => .int i
  | _, _, .str x => .str x
  | _, _, .lst n h z t => .lst (f _ _ n h).2 (f _ _ n h).1 z (AtL.fut f t)
  | _, _, .tup h z t => .tup (h.imp (fun q => ⟨(f _ _ q.1 q.2).2, (f _ _ q.1 q.2).1⟩) id) z (AtL.fut f t)
  | _, _, .dic n s h u z t => .dic (f _ _ n h).2 s (f _ _ n h).1 u z (AtD.fut f t)
theorem AtL.fut (f : Fut M M' H H') : ∀ {vs : List V} {ds : List PyData}, AtL G M H vs ds → AtL G M' H' vs ds
  | _, _, .nil => .nil
  | _, _, .cons a t => .cons (At.fut f a) (AtL.fut f t)
theorem AtD.fut (f : Fut M M' H H') : ∀ {xs : List (NestedKey × Addr × Value)} {kvs : List (PyData × PyData)}, AtD G M H xs kvs → AtD G M' H' xs kvs
  | _, _, .nil => .nil
  | _, _, .cons k n r v t => .cons (At.fut f k) n r (At.fut f v) (AtD.fut f t)
end
theorem AtL.length : ∀ {vs : List V} {ds : List PyData}, AtL G M H vs ds → vs.length = ds.length
  | _, _, .nil => rfl
  | _, _, .cons _ t => congrArg (· + 1) (AtL.length t)
theorem AtL.get : ∀ {vs : List V} {ds : List PyData} {i : Nat} {d : PyData}, AtL G M H vs ds → ds[i]? = some d → ∃ v, vs[i]? = some v ∧ At G M H v d
  | _, _, _, _, .nil, e => by simp at e
  | _, _, 0, _, .cons a _, e => by simp at e; subst e; exact ⟨_, rfl, a⟩
  | _, _, i + 1, d, .cons _ t, e => by
    obtain ⟨v, h1, h2⟩ := AtL.get (i := i) (d := d) t (by simpa using e)
    exact ⟨v, by simpa using h1, h2⟩
theorem AtL.getV : ∀ {vs : List V} {ds : List PyData} {i : Nat} {v : V}, AtL G M H vs ds → vs[i]? = some v → ∃ d, ds[i]? = some d ∧ At G M H v d
  | _, _, _, _, .nil, e => by simp at e
  | _, _, 0, _, .cons a _, e => by simp at e; subst e; exact ⟨_, rfl, a⟩
  | _, _, i + 1, d, .cons _ t, e => by
    obtain ⟨v, h1, h2⟩ := AtL.getV (i := i) (v := d) t (by simpa using e)
    exact ⟨v, by simpa using h1, h2⟩
theorem AtL.append : ∀ {vs us : List V} {ds es : List PyData}, AtL G M H vs ds → AtL G M H us es → AtL G M H (vs ++ us) (ds ++ es)
  | _, _, _, _, .nil, s => s
  | _, _, _, _, .cons a t, s => .cons a (AtL.append t s)
theorem AtL.take : ∀ {vs : List V} {ds : List PyData} (n : Nat), AtL G M H vs ds → AtL G M H (vs.take n) (ds.take n)
  | _, _, 0, _ => by simp; exact .nil
  | _, _, _ + 1, .nil => .nil
  | _, _, n + 1, .cons a t => .cons a (AtL.take n t)
theorem AtL.drop : ∀ {vs : List V} {ds : List PyData} (n : Nat), AtL G M H vs ds → AtL G M H (vs.drop n) (ds.drop n)
  | _, _, 0, r => r
  | _, _, _ + 1, .nil => .nil
  | _, _, n + 1, .cons _ t => AtL.drop n t
theorem AtL.set {v : V} {d : PyData} (a : At G M H v d) : ∀ {vs : List V} {ds : List PyData} (i : Nat), AtL G M H vs ds → AtL G M H (vs.set i v) (ds.set i d)
  | _, _, _, .nil => .nil
  | _, _, 0, .cons _ t => .cons a t
  | _, _, i + 1, .cons b t => .cons b (AtL.set a i t)
theorem AtL.ints : ∀ (ns : List Int), AtL G M H (ns.map V.int) (ns.map PyData.int)
  | [] => .nil
  | n :: ns => .cons (.int n) (AtL.ints ns)
theorem AtL.of_ints : ∀ {ns : List Int} {vs : List V}, AtL G M H vs (ns.map PyData.int) → vs = ns.map V.int
  | [], _, h => by cases h; rfl
  | n :: ns, _, h => by
    cases h with
    | cons a t => cases a; rw [AtL.of_ints t]; rfl
theorem AtL.of_bools : ∀ {bs : List Bool} {vs : List V}, AtL G M H vs (bs.map PyData.bool) → vs = bs.map V.bl
  | [], _, h => by cases h; rfl
  | n :: ns, _, h => by
    cases h with
    | cons a t => cases a; rw [AtL.of_bools t]; rfl
theorem Fut.same (e : ∀ a o, H a = some o → H' a = some o) : Fut M M H H' := fun a o n h => ⟨e a o h, n⟩
theorem Fut.refl : Fut M M H H := fun _ _ n h => ⟨h, n⟩
theorem Fut.trans {M1 : Addr → Prop} {H1 : Hp} (a : Fut M M1 H H1) (b : Fut M1 M' H1 H') : Fut M M' H H' := fun c o n h => b c o (a c o n h).2 (a c o n h).1
theorem Fut.less (e : ∀ a, M' a → M a) : Fut M M' H H := fun _ _ n h => ⟨h, fun z => n (e _ z)⟩
end
end K26
namespace K26
open PySem PySem.Spec PyProof.Rows L2

abbrev gl (X : Cx) : Gl0 := ⟨X.prog, X.w, X.K⟩
section
variable {K : PySem.W.Frag} {M : Addr → Prop} {H : Hp} {a : Addr} {xs : List V}
theorem sqT_of (h : (¬ M a ∧ H a = some (.tup xs)) ∨ KTup K a xs) : SqT K H a xs := h.elim (fun q => .of q.2) .inr
end
section
variable {X : Cx} {pins : List (Addr × Obj)} {σ : L2.St} {H : Hp} {s : Shared} {M : Addr → Prop}
/-- a list to be read -/
theorem AtH.list {v : V} {ds : List PyData} (h : AtH (gl X) M H v (.list ds)) : ∃ a xs, v = .ref a ∧ H a = some (.lst xs) ∧ AtL (gl X) M H xs ds ∧ ds.length ≤ sizeLine := by
  cases h with
  | of h => cases h with | lst n h z t => exact ⟨_, _, rfl, h, t, z⟩
  | lst h z t => exact ⟨_, _, rfl, h, t, z⟩
theorem At.tuple {v : V} {ds : List PyData} (h : At (gl X) M H v (.tuple ds)) : ∃ a xs, v = .ref a ∧ SqT X.K H a xs ∧ AtL (gl X) M H xs ds ∧ ds.length ≤ sizeLine := by
  cases h with | tup h z t => exact ⟨_, _, rfl, sqT_of h, t, z⟩
theorem AtH.tuple {v : V} {ds : List PyData} (h : AtH (gl X) M H v (.tuple ds)) : ∃ a xs, v = .ref a ∧ SqT X.K H a xs ∧ AtL (gl X) M H xs ds ∧ ds.length ≤ sizeLine := by
  cases h with | of h => exact h.tuple
theorem At.list {v : V} {ds : List PyData} (h : At (gl X) M H v (.list ds)) : ∃ a xs, v = .ref a ∧ H a = some (.lst xs) ∧ AtL (gl X) M H xs ds ∧ ds.length ≤ sizeLine := (AtH.of h).list
theorem AtH.dict {v : V} {kvs : List (PyData × PyData)} (h : AtH (gl X) M H v (.dict kvs)) :
    ∃ a xs, v = .ref a ∧ (a == sysModules) = false ∧ (∃ ep, H a = some (dicO X.prog X.w a xs ep)) ∧ (xs.map (·.1)).Nodup ∧ AtD (gl X) M H xs kvs ∧ kvs.length ≤ sizeLine := by
  cases h with
  | of h => cases h with | dic n q h u z t => exact ⟨_, _, rfl, q, ⟨_, h⟩, u, t, z⟩
  | dic q h u z t => exact ⟨_, _, rfl, q, ⟨_, h⟩, u, t, z⟩
mutual
theorem At.reads (I : Inv X pins σ H s) : ∀ (d : PyData) (v : V) (u : Value), At (gl X) M H v d → d.plain = true → RelV v u → ∃ as, Reads s.heap u d as
  | .none, _, _, h, _, r => by cases h; cases r; exact ⟨_, .none⟩
  | .bool b, _, _, h, _, r => by cases h; cases r; exact ⟨_, .bool b⟩
  | .int i, _, _, h, _, r => by cases h; obtain ⟨t, rfl⟩ := r; exact ⟨_, .int i t⟩
  | .str x, _, _, h, _, r => by cases h; obtain ⟨t, rfl⟩ := r; exact ⟨_, .str x t⟩
  | .list ds, _, _, h, p, r => by
    obtain ⟨a, xs, rfl, hs, ha, _⟩ := h.list
    cases r
    obtain ⟨its, rv, ⟨o, n, ho, hc, _, hd⟩, _⟩ := I.list (.of hs)
    obtain ⟨as, hr⟩ := AtL.reads I ds _ its ha (by simpa [PyData.plain] using p) rv
    exact ⟨_, .list ho hc hd hr⟩
  | .tuple ds, _, _, h, p, r => by
    obtain ⟨a, xs, rfl, hs, ha, _⟩ := h.tuple
    cases r
    obtain ⟨its, rv, ⟨o, ho, hc, n, hd⟩, _⟩ := I.tuple hs
    obtain ⟨as, hr⟩ := AtL.reads I ds _ its ha (by simpa [PyData.plain] using p) rv
    exact ⟨_, .tuple ho hc hd hr⟩
  | .dict _, _, _, _, p, _ => by simp [PyData.plain] at p
theorem AtL.reads (I : Inv X pins σ H s) : ∀ (ds : List PyData) (vs : List V) (us : List Value), AtL (gl X) M H vs ds → PyData.plainAll ds = true → Vals vs us → ∃ as, ReadsAll s.heap us ds as
  | [], _, _, h, _, r => by cases h; cases r; exact ⟨_, .nil⟩
  | d :: ds, _, _, h, p, r => by
    cases h with
    | cons h1 h2 =>
      cases r with
      | cons r1 r2 =>
        have p' : d.plain = true ∧ PyData.plainAll ds = true := by simpa [PyData.plainAll] using p
        obtain ⟨as, q1⟩ := At.reads I d _ _ h1 p'.1 r1
        obtain ⟨bs, q2⟩ := AtL.reads I ds _ _ h2 p'.2 r2
        exact ⟨_, .cons q1 q2⟩
end
theorem AtH.reads (I : Inv X pins σ H s) {d : PyData} {v : V} {u : Value} (h : AtH (gl X) M H v d) (p : d.plain = true) (r : RelV v u) : ∃ as, Reads s.heap u d as := by
  cases h with
  | of h => exact h.reads I _ _ _ p r
  | @lst a xs ds h z t =>
    cases r
    obtain ⟨its, rv, ⟨o, n, ho, hc, _, hd⟩, _⟩ := I.list (.of h)
    obtain ⟨as, hr⟩ := AtL.reads I ds _ its t (by simpa [PyData.plain] using p) rv
    exact ⟨_, .list ho hc hd hr⟩
  | dic => simp [PyData.plain] at p
end

/-! ### keys -/
mutual
/-- the key that a datum is (ints, texts, None, tuples of such) -/
def keyOf : PyData → Option NestedKey
  | .none => some .none
  | .int i => some (.num i)
  | .str x => some (.text x)
  | .tuple ds => (keysOf ds).map .tup
  | .bool _ => none
  | .list _ => none
  | .dict _ => none
def keysOf : List PyData → Option (List NestedKey)
  | [] => some []
  | d :: ds => match keyOf d, keysOf ds with
    | some k, some ks => some (k :: ks)
    | _, _ => none
end
mutual
theorem keyOf_data : ∀ (d : PyData) (k : NestedKey), keyOf d = some k → k.data = d
  | .none, k, h => by simp only [keyOf, Option.some.injEq] at h; subst h; rfl
  | .int i, k, h => by simp only [keyOf, Option.some.injEq] at h; subst h; rfl
  | .str x, k, h => by simp only [keyOf, Option.some.injEq] at h; subst h; rfl
  | .tuple ds, k, h => by
    simp only [keyOf, Option.map_eq_some_iff] at h
    obtain ⟨ks, h1, rfl⟩ := h
    simp only [NestedKey.data, keysOf_data ds ks h1]
  | .bool _, _, h => by simp [keyOf] at h
  | .list _, _, h => by simp [keyOf] at h
  | .dict _, _, h => by simp [keyOf] at h
theorem keysOf_data : ∀ (ds : List PyData) (ks : List NestedKey), keysOf ds = some ks → NestedKey.datas ks = ds
  | [], ks, h => by simp only [keysOf, Option.some.injEq] at h; subst h; rfl
  | d :: ds, ks, h => by
    unfold keysOf at h
    cases h1 : keyOf d with
    | none => simp [h1] at h
    | some k =>
      cases h2 : keysOf ds with
      | none => simp [h1, h2] at h
      | some ks' =>
        simp only [h1, h2, Option.some.injEq] at h
        subst h
        simp only [NestedKey.datas, keyOf_data d k h1, keysOf_data ds ks' h2]
end
section
variable {X : Cx} {pins : List (Addr × Obj)} {σ : L2.St} {H : Hp} {s : Shared} {M : Addr → Prop}
mutual
theorem At.key (I : Inv X pins σ H s) : ∀ (k : NestedKey) (v : V) (u : Value), At (gl X) M H v k.data → RelV v u → NestedIs s.heap k u
  | .none, _, _, h, r => by
    have h : At (gl X) M H _ .none := h
    cases h; cases r; exact .none
  | .num i, _, _, h, r => by
    have h : At (gl X) M H _ (.int i) := h
    cases h; obtain ⟨t, rfl⟩ := r; exact .int i t
  | .text x, _, _, h, r => by
    have h : At (gl X) M H _ (.str x) := h
    cases h; obtain ⟨t, rfl⟩ := r; exact .text x t
  | .tup ks, _, _, h, r => by
    have h : At (gl X) M H _ (.tuple (NestedKey.datas ks)) := h
    obtain ⟨a, xs, rfl, hs, ha, _⟩ := h.tuple
    cases r
    obtain ⟨its, rv, ⟨o, ho, hc, n, hd⟩, _⟩ := I.tuple hs
    exact .tup ho hc hd (by simpa using AtL.keys I ks _ _ ha rv)
theorem AtL.keys (I : Inv X pins σ H s) : ∀ (ks : List NestedKey) (vs : List V) (us : List Value), AtL (gl X) M H vs (NestedKey.datas ks) → Vals vs us → NestedAll s.heap ks us
  | [], _, _, h, r => by
    have h : AtL (gl X) M H _ [] := h
    cases h; cases r; exact .nil
  | k :: ks, _, _, h, r => by
    have h : AtL (gl X) M H _ (k.data :: NestedKey.datas ks) := h
    cases h with
    | cons h1 h2 =>
      cases r with
      | cons r1 r2 => exact .cons (At.key I k _ _ h1 r1) (AtL.keys I ks _ _ h2 r2)
end
theorem AtD.is (I : Inv X pins σ H s) : ∀ {xs : List (NestedKey × Addr × Value)} {kvs : List (PyData × PyData)}, AtD (gl X) M H xs kvs → ∀ x ∈ xs, (nestedKind X.prog X.w).is s.heap x.1 x.2.1
  | _, _, .nil, x, hx => absurd hx (by simp)
  | _, _, .cons k n r v t, x, hx => by
    rcases List.mem_cons.mp hx with e | hx
    · subst e; exact ⟨k.key I _ _ _ rfl, n⟩
    · exact AtD.is I t x hx
/-- the dict at a, for the library's rules -/
theorem dic_at (I : Inv X pins σ H s) {a : Addr} {xs : List (NestedKey × Addr × Value)} {kvs : List (PyData × PyData)} (h : ∃ ep, H a = some (dicO X.prog X.w a xs ep)) (u : (xs.map (·.1)).Nodup) (t : AtD (gl X) M H xs kvs) :
    s.heap.DictOfH (nestedKind X.prog X.w) a xs := by
  obtain ⟨ep, h⟩ := h
  obtain ⟨⟨o, es, h1, h2, h3, h4⟩, _, _⟩ := I.hok a _ h
  exact ⟨o, es, ep, h1, h2, h3, h4, t.is I, u⟩
theorem dic_new {P : Program} {w : World} {h : Heap} {a : Addr} {xs : List (NestedKey × Addr × Value)} (x : h.DictOfH (nestedKind P w) a xs) : ∃ ep, ∀ H : Hp, ObjOk P w H h a (dicO P w a xs ep) := by
  obtain ⟨o, es, ep, h1, h2, h3, h4, _, _⟩ := x
  exact ⟨ep, fun _ => ⟨⟨o, es, h1, h2, h3, h4⟩, ⟨o, h1⟩, fun g1 g2 ⟨o, es, k1, k2, k3, k4⟩ st => ⟨o, es, st _ k1, k2, k3, k4⟩⟩⟩
theorem AtD.length {G : Gl0} : ∀ {xs : List (NestedKey × Addr × Value)} {kvs : List (PyData × PyData)}, AtD G M H xs kvs → xs.length = kvs.length
  | _, _, .nil => rfl
  | _, _, .cons _ _ _ _ t => congrArg (· + 1) (AtD.length t)
end
/-- what a dict holds at a key -/
def lookD (kvs : List (PyData × PyData)) (k : NestedKey) : Option PyData := match kvs with
  | [] => none
  | (d, v) :: r => if keyOf d = some k then some v else lookD r k
def storeD (kvs : List (PyData × PyData)) (k : NestedKey) (x : PyData) : List (PyData × PyData) := match kvs with
  | [] => [(k.data, x)]
  | (d, v) :: r => if keyOf d = some k then (d, x) :: r else (d, v) :: storeD r k x
mutual
theorem data_key : ∀ (k : NestedKey), keyOf k.data = some k
  | .none => rfl
  | .num i => rfl
  | .text x => rfl
  | .tup ks => by
    show keyOf (.tuple (NestedKey.datas ks)) = _
    simp only [keyOf, datas_key ks, Option.map_some]
theorem datas_key : ∀ (ks : List NestedKey), keysOf (NestedKey.datas ks) = some ks
  | [] => rfl
  | k :: ks => by
    show keysOf (k.data :: NestedKey.datas ks) = _
    unfold keysOf
    rw [data_key k, datas_key ks]
end
section
variable {G : Gl0} {M : Addr → Prop} {H : Hp}
theorem AtD.look : ∀ {xs : List (NestedKey × Addr × Value)} {kvs : List (PyData × PyData)} (k : NestedKey), AtD G M H xs kvs →
    match lookD kvs k with
    | none => atKey xs k = none
    | some d => ∃ b u v, atKey xs k = some (b, u) ∧ RelV v u ∧ At G M H v d
  | _, _, k, .nil => rfl
  | _, _, k, .cons (k := k') (b := b) (u := u) (v := v) (d := d) (xs := xs) (kvs := kvs) a n r av t => by
    have ih := AtD.look k t
    unfold lookD
    rw [data_key k']
    by_cases e : k' = k
    · subst e
      simp only [if_true]
      exact ⟨b, u, v, by simp [atKey], r, av⟩
    · have e' : ¬ (some k' = some k) := fun z => e (Option.some.inj z)
      rw [if_neg e']
      have ea : atKey ((k', b, u) :: xs) k = atKey xs k := by simp [atKey, e]
      rw [ea]
      exact ih
theorem AtD.mapPut {x : Value} {v : V} {d : PyData} (k : NestedKey) (rx : RelV v x) (av : At G M H v d) : ∀ {xs : List (NestedKey × Addr × Value)} {kvs : List (PyData × PyData)}, AtD G M H xs kvs → (xs.map (·.1)).Nodup → (atKey xs k).isSome = true →
    AtD G M H (xs.map (putAt k x)) (storeD kvs k d)
  | _, _, .nil, _, h => by simp [atKey] at h
  | _, _, .cons (k := k') (b := b) (u := u) (xs := xs) (kvs := kvs) a n r bv t, nd, h => by
    unfold storeD
    rw [data_key k']
    have nd' := List.nodup_cons.mp nd
    by_cases e : k' = k
    · subst e
      rw [if_pos rfl]
      rw [List.map_cons, map_putAt_of_not_mem xs k' x nd'.1]
      have ep : putAt k' x (k', b, u) = (k', b, x) := by simp [putAt]
      rw [ep]
      exact .cons a n rx av t
    · have e' : ¬ (some k' = some k) := fun z => e (Option.some.inj z)
      rw [if_neg e', List.map_cons]
      have ep : putAt k x (k', b, u) = (k', b, u) := by simp [putAt, e]
      rw [ep]
      refine .cons a n r bv (AtD.mapPut k rx av t nd'.2 ?_)
      simpa [atKey, e] using h
theorem AtD.snoc {k : NestedKey} {b : Addr} {x : Value} {v : V} {d : PyData} (ak : At G M H (.ref b) k.data) (n8 : k.depth ≤ 8) (rx : RelV v x) (av : At G M H v d) : ∀ {xs : List (NestedKey × Addr × Value)} {kvs : List (PyData × PyData)}, AtD G M H xs kvs → atKey xs k = none →
    AtD G M H (xs ++ [(k, b, x)]) (storeD kvs k d)
  | _, _, .nil, _ => .cons ak n8 rx av .nil
  | _, _, .cons (k := k') (b := b') (u := u) (xs := xs) (kvs := kvs) a n r bv t, h => by
    unfold storeD
    rw [data_key k']
    by_cases e : k' = k
    · subst e; simp [atKey] at h
    · have e' : ¬ (some k' = some k) := fun z => e (Option.some.inj z)
      rw [if_neg e']
      exact .cons a n r bv (AtD.snoc ak n8 rx av t (by simpa [atKey, e] using h))
/-- behind d[k] = x -/
theorem AtD.stored {k : NestedKey} {b : Addr} {x : Value} {v : V} {d : PyData} {xs : List (NestedKey × Addr × Value)} {kvs : List (PyData × PyData)} (nd : (xs.map (·.1)).Nodup) (t : AtD G M H xs kvs) (ak : At G M H (.ref b) k.data) (n8 : k.depth ≤ 8) (rx : RelV v x)
    (av : At G M H v d) : AtD G M H (storedH xs k b x) (storeD kvs k d) := by
  cases e : atKey xs k with
  | none => rw [storedH_new e]; exact t.snoc ak n8 rx av e
  | some p => rw [storedH_old e]; exact AtD.mapPut k rx av t nd (by rw [e]; rfl)
theorem storeD_length (k : NestedKey) (x : PyData) : ∀ kvs : List (PyData × PyData), (storeD kvs k x).length ≤ kvs.length + 1
  | [] => by simp [storeD]
  | (d, v) :: r => by
    have ih := storeD_length k x r
    unfold storeD
    split
    · simp
    · simpa using ih
end
end K26
namespace K26
open PySem PySem.Spec PyProof.Rows L2

/-! ### what a def's names hold, at the level of data -/
inductive Sl where
  /-- a datum -/
  | d (x : PyData)
  /-- the law's pool -/
  | pool
  /-- a list, a dict of the def's own, that it changes -/
  | ownL (xs : List PyData) | ownD (kvs : List (PyData × PyData))
  /-- a function that was handed in -/
  | fn
abbrev Gm := List (Option Sl)
abbrev Pl := List PyData
/-- the function that was handed in; objects that stay -/
structure Fx where
  fa : Option Addr := none
  kp : List (Addr × HO) := []
  tt : List (Addr × Str) := []
structure Wx where
  M : Addr → Prop
  base : Addr → Prop
  pl : Option Addr
  T : List (Addr × Str)
  F : Fx := {}
  ac : Addr → Prop := fun _ => False
/-- what may change -/
def Wx.C (W : Wx) (a : Addr) : Prop := match W.pl with
  | none => False
  | some p => a = p ∨ ∃ t ∈ W.T, t.1 = a
def Sl.own : Sl → Bool
  | .ownL _ => true
  | .ownD _ => true
  | _ => false
def OwnAt (Γ : Gm) (i : Nat) : Prop := ∃ s, Γ[i]? = some (some s) ∧ s.own = true
structure PoolOk (G : Gl0) (W : Wx) (H : Hp) (S : Pl) (p : Addr) : Prop where
  base : W.base p
  tabs : LamX.Tabs W.T H
  tb : ∀ t ∈ W.T, W.base t.1
  at_ : ∃ vs, H p = some (.lst vs) ∧ AtL G W.M H vs S
  z : S.length ≤ sizeLine
  tt : W.T = W.F.tt
/-- the pool, where there is one -/
def PoolAt (G : Gl0) (W : Wx) (H : Hp) (S : Pl) : Prop := match W.pl with
  | none => S = []
  | some p => PoolOk G W H S p
theorem PoolAt.tk {G : Gl0} {W : Wx} {H : Hp} {S : Pl} (q : PoolAt G W H S) (a : Addr) (c : W.C a) : ∃ o, H a = some o := by
  unfold PoolAt at q
  unfold Wx.C at c
  cases e : W.pl with
  | none => rw [e] at c; exact c.elim
  | some p =>
    rw [e] at q c
    rcases c with c | ⟨t, ht, c⟩
    · obtain ⟨vs, h, _⟩ := q.at_
      exact ⟨_, by rw [c]; exact h⟩
    · obtain ⟨ps, h, _⟩ := q.tabs t ht
      exact ⟨_, by rw [← c]; exact h⟩
structure Rep (G : Gl0) (W : Wx) (H : Hp) (σ : L2.St) (Γ : Gm) (S : Pl) : Prop where
  trk : ∀ a, W.M a → ∃ o, H a = some o
  sub : ∀ a, W.base a → W.M a
  acs : ∀ a, W.ac a → W.M a
  len : σ.length = Γ.length
  dat : ∀ (i : Nat) (x : PyData), Γ[i]? = some (some (.d x)) → ∃ v, σ[i]? = some (some v) ∧ At G W.M H v x
  pol : ∀ (i : Nat), Γ[i]? = some (some .pool) → ∃ p, W.pl = some p ∧ σ[i]? = some (some (.ref p))
  fns : ∀ (i : Nat), Γ[i]? = some (some .fn) → ∃ f, W.F.fa = some f ∧ σ[i]? = some (some (.ref f))
  kept : ∀ p ∈ W.F.kp, ¬ W.M p.1 ∧ H p.1 = some p.2
  own : ∃ ow : Nat → Addr, (∀ (i : Nat), OwnAt Γ i → W.M (ow i) ∧ ¬ W.base (ow i) ∧ ¬ W.ac (ow i)) ∧ (∀ (i j : Nat), OwnAt Γ i → OwnAt Γ j → ow i = ow j → i = j) ∧
    (∀ (i : Nat) (xs : List PyData), Γ[i]? = some (some (.ownL xs)) → σ[i]? = some (some (.ref (ow i))) ∧ xs.length ≤ sizeLine ∧ ∃ vs, H (ow i) = some (.lst vs) ∧ AtL G W.M H vs xs) ∧
    (∀ (i : Nat) (kvs : List (PyData × PyData)), Γ[i]? = some (some (.ownD kvs)) → σ[i]? = some (some (.ref (ow i))) ∧ kvs.length ≤ sizeLine ∧ (ow i == sysModules) = false ∧ ∃ xs, (∃ ep, H (ow i) = some (dicO G.P G.w (ow i) xs ep)) ∧ (xs.map (·.1)).Nodup ∧ AtD G W.M H xs kvs)
  pool : PoolAt G W H S

section
variable {G : Gl0} {W : Wx} {H H' : Hp} {σ : L2.St} {Γ : Gm} {S S' : Pl}
theorem Wx.C_base (R : Rep G W H σ Γ S) {a : Addr} (h : W.C a) : W.base a := by
  have q := R.pool
  unfold PoolAt at q
  unfold Wx.C at h
  cases e : W.pl with
  | none => rw [e] at h; exact h.elim
  | some p =>
    rw [e] at h q
    rcases h with h | ⟨t, ht, h⟩
    · subst h; exact q.base
    · subst h; exact q.tb t ht
/-- an expression keeps all but what may change -/
def Keep (W : Wx) (H H' : Hp) : Prop := ∀ a o, ¬ W.C a → H a = some o → H' a = some o
theorem Keep.refl : Keep W H H := fun _ _ _ h => h
theorem Keep.trans {H1 : Hp} (a : Keep W H H1) (b : Keep W H1 H') : Keep W H H' := fun c o n h => b c o n (a c o n h)
theorem Keep.same (e : Same H H') : Keep W H H' := fun a o _ h => e a o h
theorem Keep.fut (R : Rep G W H σ Γ S) (k : Keep W H H') : Fut W.M W.M H H' := fun a o n h => ⟨k a o (fun c => n (R.sub _ (Wx.C_base R c))) h, n⟩
/-- statements: own objects may change, new ones come -/
structure Ext (W W' : Wx) (H H' : Hp) : Prop where
  base : W'.base = W.base
  pl : W'.pl = W.pl
  T : W'.T = W.T
  F : W'.F = W.F
  ac : W'.ac = W.ac
  cm : ∀ a, W.C a → W.M a
  new : ∀ a, W'.M a → W.M a ∨ H a = none
  kp : ∀ a o, ¬ W.C a → (W.base a ∨ ¬ W.M a) → H a = some o → H' a = some o
theorem Rep.cm (R : Rep G W H σ Γ S) (a : Addr) (h : W.C a) : W.M a := R.sub _ (Wx.C_base R h)
theorem Ext.refl (R : Rep G W H σ Γ S) : Ext W W H H := ⟨rfl, rfl, rfl, rfl, rfl, R.cm, fun _ h => .inl h, fun _ _ _ _ h => h⟩
theorem Ext.C {W' : Wx} (e : Ext W W' H H') : W'.C = W.C := by
  funext a
  unfold Wx.C
  rw [e.pl, e.T]
theorem Ext.trans {W1 W2 : Wx} {H1 : Hp} (a : Ext W W1 H H1) (b : Ext W1 W2 H1 H') : Ext W W2 H H' := by
  refine ⟨b.base.trans a.base, b.pl.trans a.pl, b.T.trans a.T, b.F.trans a.F, b.ac.trans a.ac, a.cm, fun c h => ?_, fun c o n m h => ?_⟩
  · rcases b.new c h with q | q
    · exact a.new c q
    · cases e : H c with
      | none => exact .inr rfl
      | some o =>
        refine .inl (Classical.byContradiction fun nm => ?_)
        have h1 := a.kp c o (fun z => nm (a.cm c z)) (.inr nm) e
        rw [q] at h1; cases h1
  · have h1 := a.kp c o n m h
    refine b.kp c o (by rw [a.C]; exact n) ?_ h1
    rcases m with m | m
    · exact .inl (by rw [a.base]; exact m)
    · refine .inr fun z => ?_
      rcases a.new c z with z | z
      · exact m z
      · rw [h] at z; cases z
theorem Ext.fut {W' : Wx} (e : Ext W W' H H') : Fut W.M W'.M H H' := fun a o n h => by
  refine ⟨e.kp a o (fun z => n (e.cm a z)) (.inr n) h, fun z => ?_⟩
  rcases e.new a z with z | z
  · exact n z
  · rw [h] at z; cases z
theorem Keep.ext (R : Rep G W H σ Γ S) (k : Keep W H H') : Ext W W H H' := ⟨rfl, rfl, rfl, rfl, rfl, R.cm, fun _ h => .inl h, fun a o n _ h => k a o n h⟩

/-- all stays but what may change -/
theorem Rep.keep (R : Rep G W H σ Γ S) (k : Keep W H H') (q : PoolAt G W H' S') : Rep G W H' σ Γ S' := by
  have f : Fut W.M W.M H H' := k.fut R
  have nc : ∀ {a}, ¬ W.base a → ¬ W.C a := fun n c => n (Wx.C_base R c)
  refine ⟨fun a h => ?_, R.sub, R.acs, R.len, fun i x h => let ⟨v, q, a⟩ := R.dat i x h; ⟨v, q, a.fut f⟩, R.pol, R.fns, fun p hp => ⟨(R.kept p hp).1, (f _ _ (R.kept p hp).1 (R.kept p hp).2).1⟩, ?_, q⟩
  · by_cases c : W.C a
    · exact q.tk a c
    · obtain ⟨o, e⟩ := R.trk a h
      exact ⟨o, k a o c e⟩
  · obtain ⟨ow, h1, h2, h3, h4⟩ := R.own
    refine ⟨ow, h1, h2, fun i xs h => ?_, fun i xs h => ?_⟩
    · obtain ⟨q1, q2, vs, q3, q4⟩ := h3 i xs h
      exact ⟨q1, q2, vs, k _ _ (nc (h1 i ⟨_, h, rfl⟩).2.1) q3, q4.fut f⟩
    · obtain ⟨q1, q2, q3, vs, q4, q5, q6⟩ := h4 i xs h
      exact ⟨q1, q2, q3, vs, let ⟨ep, q4⟩ := q4; ⟨ep, k _ _ (nc (h1 i ⟨_, h, rfl⟩).2.1) q4⟩, q5, q6.fut f⟩
theorem Rep.same (R : Rep G W H σ Γ S) (e : Same H H') : Rep G W H' σ Γ S := by
  refine R.keep (.same e) ?_
  have q := R.pool
  unfold PoolAt at q ⊢
  cases h : W.pl with
  | none => rw [h] at q; exact q
  | some p =>
    rw [h] at q
    obtain ⟨vs, z1, z2⟩ := q.at_
    exact ⟨q.base, q.tabs.ext e, q.tb, ⟨vs, e _ _ z1, z2.fut (.same e)⟩, q.z, q.tt⟩
/-- a slot gets a datum -/
theorem Rep.set {i : Nat} {v : V} {x : PyData} (R : Rep G W H σ Γ S) (a : At G W.M H v x) : Rep G W H (σ.set i (some v)) (Γ.set i (some (.d x))) S := by
  have gs : ∀ {j : Nat} {s : Sl}, (Γ.set i (some (.d x)))[j]? = some (some s) → (j = i ∧ s = .d x ∧ i < Γ.length) ∨ (j ≠ i ∧ Γ[j]? = some (some s)) := fun {j s} h => by
    by_cases e : i = j
    · subst e
      by_cases hl : i < Γ.length
      · rw [List.getElem?_set_self hl] at h
        cases h
        exact .inl ⟨rfl, rfl, hl⟩
      · rw [List.getElem?_eq_none (by simpa using hl)] at h
        cases h
    · rw [List.getElem?_set_ne e] at h
      exact .inr ⟨fun z => e z.symm, h⟩
  have ss : ∀ {j : Nat}, j ≠ i → (σ.set i (some v))[j]? = σ[j]? := fun {j} e => List.getElem?_set_ne (fun z => e z.symm)
  refine ⟨R.trk, R.sub, R.acs, by simpa using R.len, fun j y h => ?_, fun j h => ?_, fun j h => ?_, R.kept, ?_, R.pool⟩
  · rcases gs h with ⟨rfl, e, hl⟩ | ⟨e, h⟩
    · cases e
      exact ⟨v, by rw [List.getElem?_set_self (by rw [R.len]; exact hl)], a⟩
    · rw [ss e]; exact R.dat j y h
  · rcases gs h with ⟨_, e, _⟩ | ⟨e, h⟩
    · cases e
    · rw [ss e]; exact R.pol j h
  · rcases gs h with ⟨_, e, _⟩ | ⟨e, h⟩
    · cases e
    · rw [ss e]; exact R.fns j h
  · obtain ⟨ow, h1, h2, h3, h4⟩ := R.own
    have old : ∀ {j}, OwnAt (Γ.set i (some (.d x))) j → OwnAt Γ j := fun {j} ⟨s, h, z⟩ => by
      rcases gs h with ⟨_, e, _⟩ | ⟨e, h⟩
      · subst e; cases z
      · exact ⟨s, h, z⟩
    refine ⟨ow, fun j h => h1 j (old h), fun j k a b => h2 j k (old a) (old b), fun j xs h => ?_, fun j xs h => ?_⟩
    · rcases gs h with ⟨_, e, _⟩ | ⟨e, h⟩
      · cases e
      · rw [ss e]; exact h3 j xs h
    · rcases gs h with ⟨_, e, _⟩ | ⟨e, h⟩
      · cases e
      · rw [ss e]; exact h4 j xs h
end

end K26
namespace K26
open PySem PySem.Spec PyProof.Rows L2 PySem.W

/-! ### the small tongue that the defs are written in, and what it says of data -/
inductive Bi | len | abs | int | mxq | mnq | list | tuple | all | sorted | str | repr
  deriving DecidableEq
inductive Bj | mx | mn | dm
  deriving DecidableEq
inductive Ty | int | bool | tuple | str
  deriving DecidableEq
mutual
inductive Tg
  | nm (i : Nat) | tp (gs : Tgs) | sb (i : Nat) (k : Nat)
inductive Tgs
  | nil | cons (g : Tg) (gs : Tgs)
end
mutual
inductive Tm
  | var (i : Nat) | non | bl (b : Bool) | int (i : Int) | str (x : Str) | glo (g : Nat)
  | bin (op : Operator) (a b : Tm) | neg (a : Tm)
  | cmp (op : CmpOp) (a b : Tm) | cmp2 (o1 o2 : CmpOp) (a b c : Tm) | isc (ng : Bool) (a : Tm) (c : Option Bool) | ino (ng : Bool) (a : Tm) (i : Nat)
  | boo (op : BoolOp) (as : Ts) | not (a : Tm) | ite (c a b : Tm)
  | ix (a b : Tm) | ixo (i : Nat) (b : Tm) | sl (a : Tm) (lo hi : Os)
  | tup (as : Ts) | lst (as : Ts) | dic0 | dic1 (k v : Tm)
  | bi (f : Bi) (a : Tm) | bio (f : Bi) (i : Nat) | bj (f : Bj) (a b : Tm) | isa (a : Tm) (t : Ty)
  | sset (a : Tm) | lrg (as : Ts) | vmx (a : Tm) | dic (a : Tm) | get (a k x : Tm) | geto (i : Nat) (k x : Tm) | upper (a : Tm)
  | call (f : Nat) (as : Ts) | callK (f : Nat) (as : Ts) | callP (f i : Nat) (as : Ts) | callF (i : Nat) (a : Tm)
  | lc (elt : Tm) (tg : Tg) (it : Im) (ifs : Os) (own : List Nat)
  | lc2 (elt : Tm) (tg : Tg) (it : Im) (ifs : Os) (tg1 : Tg) (it1 : Im) (ifs1 : Os) (own own1 : List Nat)
  | settle (caps : List Nat) (body : Tm)
inductive Ts
  | nil | cons (a : Tm) (as : Ts)
inductive Os
  | no | so (a : Tm)
inductive Im
  | seq (a : Tm) | rng1 (a : Tm) | rng2 (a b : Tm) | enum (a : Tm) | zip (a b : Tm) | dic (a : Tm)
end
mutual
inductive Sm
  | set (i : Nat) (e : Tm) | setLc (i : Nat) (e : Tm) | own (i : Nat) (e : Tm) | par (is : List Nat) (as : Ts) | asg (tg : Tg) (e : Tm) | aug (i : Nat) (e : Tm)
  | put (i : Nat) (k v : Tm) | app (i : Nat) (e : Tm) | ext (i : Nat) (as : Ts)
  | ret (e : Tm) | reto (i : Nat) | ife (c : Tm) (a b : Ss) | for_ (tg : Tg) (it : Im) (b : Ss) | foro (tg : Tg) (i : Nat) (b : Ss) | whl (n : Nat) (c : Tm) (b : Ss) | brk
inductive Ss
  | nil | cons (s : Sm) (r : Ss)
end

abbrev Re := Option (PyData × Pl)
abbrev SL : Nat := 16777216
abbrev DL : Nat := 100
def intD : PyData → Option Int
  | .int i => some i
  | _ => none
def boolD : PyData → Option Bool
  | .bool b => some b
  | _ => none
def intsD : List PyData → Option (List Int)
  | [] => some []
  | .int i :: ds => (intsD ds).map (i :: ·)
  | _ :: _ => none
def boolsD : List PyData → Option (List Bool)
  | [] => some []
  | .bool i :: ds => (boolsD ds).map (i :: ·)
  | _ :: _ => none
def seqD : PyData → Option (List PyData)
  | .list xs => some xs
  | .tuple xs => some xs
  | _ => none
def mulB (i j : Int) : Bool := decide ((-(2 ^ 64) < i ∧ i < 2 ^ 64) ∨ (-(2 ^ 64) < j ∧ j < 2 ^ 64))
def binD (op : Operator) (a b : PyData) : Option PyData := match op, a, b with
  | .Add, .int i, .int j => some (.int (i + j))
  | .Add, .list xs, .list ys => if xs.length + ys.length ≤ SL then some (.list (xs ++ ys)) else none
  | .Add, .tuple xs, .tuple ys => if xs.length + ys.length ≤ SL then some (.tuple (xs ++ ys)) else none
  | .Add, .str x, .str y => if x.length + y.length ≤ SL then some (.str (x ++ y)) else none
  | .Sub, .int i, .int j => some (.int (i - j))
  | .Mult, .int i, .int j => if mulB i j then some (.int (i * j)) else none
  | .Mult, .list xs, .int j => if 0 < j ∧ j < 1000 ∧ xs.length * j.toNat ≤ SL ∧ xs ≠ [] then some (.list (List.replicate j.toNat xs).flatten) else none
  | .FloorDiv, .int i, .int j => if 0 < j ∧ j < 1073741824 then some (.int (i / j)) else none
  | .Mod, .int i, .int j => if 0 < j then some (.int (i % j)) else none
  | .Pow, .int i, .int j => if 0 ≤ j ∧ j ≤ 1000 ∧ i.natAbs < 2 ^ 64 then some (.int (i ^ j.toNat)) else none
  | _, _, _ => none
def hasD (ds : List PyData) (a : PyData) : Bool := ds.any fun d => PyData.eqv d a
def cmpD (op : CmpOp) (a b : PyData) : Option Bool := match op, a, b with
  | .Lt, .int i, .int j => some (decide (i < j))
  | .LtE, .int i, .int j => some (decide (i ≤ j))
  | .Gt, .int i, .int j => some (decide (j < i))
  | .GtE, .int i, .int j => some (decide (j ≤ i))
  | .Lt, .tuple xs, .tuple ys => if PyData.plainAll xs && PyData.plainAll ys && alike (.tuple xs) (.tuple ys) && decide ((PyData.tuple xs).depth ≤ DL) then some (dataLt (.tuple xs) (.tuple ys)) else none
  | .Eq, x, y => if x.plain && y.plain && decide (x.depth ≤ DL) then some (PyData.eqv x y) else none
  | .NotEq, x, y => if x.plain && y.plain && decide (x.depth ≤ DL) then some (!PyData.eqv x y) else none
  | .In, x, .list ys => if x.plain && PyData.plainAll ys && decide (x.depth ≤ DL) then some (hasD ys x) else none
  | .In, x, .tuple ys => if x.plain && PyData.plainAll ys && decide (x.depth ≤ DL) then some (hasD ys x) else none
  | .NotIn, x, .list ys => if x.plain && PyData.plainAll ys && decide (x.depth ≤ DL) then some (!hasD ys x) else none
  | .NotIn, x, .tuple ys => if x.plain && PyData.plainAll ys && decide (x.depth ≤ DL) then some (!hasD ys x) else none
  | .In, .tuple xs, .dict kvs => (keyOf (.tuple xs)).bind fun k => if k.depth ≤ 8 then some (lookD kvs k).isSome else none
  | .NotIn, .tuple xs, .dict kvs => (keyOf (.tuple xs)).bind fun k => if k.depth ≤ 8 then some (!(lookD kvs k).isSome) else none
  | _, _, _ => none
def isD (a : PyData) (c : Option Bool) : Option Bool := match c, a with
  | none, .none => some true
  | none, _ => some false
  | some c, .bool b => some (decide (b = c))
  | some _, _ => none
def ixD (a b : PyData) : Option PyData := match a, b with
  | .list xs, .int i => atI xs i
  | .tuple xs, .int i => atI xs i
  | .dict kvs, .tuple ks => (keyOf (.tuple ks)).bind fun k => if k.depth ≤ 8 then lookD kvs k else none
  | _, _ => none
def cutD (xs : List PyData) (lo hi : Option Int) : List PyData := (xs.drop (HT.sIx xs.length 0 lo)).take (HT.sIx xs.length xs.length hi - HT.sIx xs.length 0 lo)
def slD (a : PyData) (lo hi : Option Int) : Option PyData := match a with
  | .list xs => some (.list (cutD xs lo hi))
  | .tuple xs => some (.tuple (cutD xs lo hi))
  | _ => none
def isaD (a : PyData) (t : Ty) : Bool := match a, t with
  | .int _, .int => true
  | .bool _, .int => true
  | .bool _, .bool => true
  | .tuple _, .tuple => true
  | .str _, .str => true
  | _, _ => false
/-- what may be sorted -/
def sortOk (ds : List PyData) : Bool := (ds.all fun d => match d with
  | .tuple (_ :: _) => true
  | _ => false) && (ds.all fun d => ds.all fun e => alike d e) && (ds.all fun d => decide (d.depth ≤ DL)) && ds.all fun d => d.plain
def sortD (ds : List PyData) : List PyData := ds.mergeSort (dataLe false id)
def uniqI (ns : List Int) : List Int := ns.eraseDups.mergeSort (fun a b => decide (a ≤ b))
def minI : List Int → Option Int
  | [] => none
  | x :: xs => some (xs.foldl min x)
def maxI : List Int → Option Int
  | [] => none
  | x :: xs => some (xs.foldl max x)
def biD (f : Bi) (a : PyData) : Option PyData := match f, a with
  | .len, .list xs => some (.int xs.length)
  | .len, .tuple xs => some (.int xs.length)
  | .len, .dict xs => some (.int xs.length)
  | .abs, .int i => some (.int i.natAbs)
  | .int, .int i => some (.int i)
  | .mxq, .list xs => (intsD xs).bind fun ns => (maxI ns).map .int
  | .mnq, .list xs => (intsD xs).bind fun ns => (minI ns).map .int
  | .mxq, .tuple xs => (intsD xs).bind fun ns => (maxI ns).map .int
  | .mnq, .tuple xs => (intsD xs).bind fun ns => (minI ns).map .int
  | .list, .list xs => some (.list xs)
  | .list, .tuple xs => some (.list xs)
  | .list, .dict kvs => some (.list (kvs.map (·.1)))
  | .tuple, .list xs => some (.tuple xs)
  | .all, .list xs => (boolsD xs).map fun bs => .bool (bs.all id)
  | .sorted, .list xs => if sortOk xs then some (.list (sortD xs)) else none
  | .str, .int i => if i.natAbs.log2 < 1920 then some (.str (toString i)) else none
  | .str, .tuple xs => if (PyData.tuple xs).plain && (PyData.tuple xs).showable && decide ((PyData.tuple xs).shown.length ≤ SL) && decide ((PyData.tuple xs).depth ≤ DL) then some (.str (PyData.tuple xs).shown) else none
  | .repr, .tuple xs => if (PyData.tuple xs).plain && (PyData.tuple xs).showable && decide ((PyData.tuple xs).shown.length ≤ SL) && decide ((PyData.tuple xs).depth ≤ DL) then some (.str (PyData.tuple xs).shown) else none
  | _, _ => none
def bjD (f : Bj) (a b : PyData) : Option PyData := match f, a, b with
  | .mx, .int i, .int j => some (.int (max i j))
  | .mn, .int i, .int j => some (.int (min i j))
  | .dm, .int i, .int j => if 0 < j ∧ j < 1073741824 then some (.tuple [.int (i / j), .int (i % j)]) else none
  | _, _, _ => none
def ssetD (a : PyData) : Option PyData := match a with
  | .list xs => if xs.length < 64 then (intsD xs).map fun ns => .list ((uniqI ns).map .int) else none
  | _ => none
def rgD (as : List PyData) : Option (List PyData) := match as with
  | [.int j] => if -(2 ^ 62) ≤ j ∧ j ≤ 16777216 then some ((List.range j.toNat).map fun (i : Nat) => PyData.int i) else none
  | [.int i, .int j] => if -(2 ^ 62) ≤ i ∧ i < 2 ^ 62 ∧ -(2 ^ 62) ≤ j ∧ j < 2 ^ 62 ∧ j - i ≤ 16777216 then some ((List.range (j - i).toNat).map fun (k : Nat) => PyData.int (i + k)) else none
  | _ => none
/-- list(range(..)) -/
def lrgD (as : List PyData) : Option (List PyData) := match as with
  | [.int i, .int j] => if j ≤ i then some [] else rgD [.int i, .int j]
  | as => rgD as
def vmxD (a : PyData) : Option PyData := match a with
  | .dict kvs => (intsD (kvs.map (·.2))).bind fun ns => (maxI ns).map .int
  | _ => none
def dicD (a : PyData) : Option PyData := match a with
  | .list xs => (xs.foldlM (fun (kvs : List (PyData × PyData)) (p : PyData) => match p with
    | .tuple [.tuple ks, v] => (keyOf (.tuple ks)).bind fun k => if k.depth ≤ 8 then some (storeD kvs k v) else none
    | _ => none) []).map .dict
  | _ => none
def getD' (a k x : PyData) : Option PyData := match a, k with
  | .dict kvs, .tuple ks => (keyOf (.tuple ks)).bind fun k => if k.depth ≤ 8 then some ((lookD kvs k).getD x) else none
  | _, _ => none
def upD (a : PyData) : Option PyData := match a with
  | .str x => if x.length ≤ 100 ∧ x.cps.all (· < 128) then some (.str ⟨x.cps.map PyProof.Rows.up1⟩) else none
  | _ => none

/-- the defs' environment: what the constants are, what each def answers -/
structure Cf where
  gl : Nat → PyData
  fn : Nat → Option (List PyData → Option PyData)
  pf : Nat → Option (List PyData → Pl → Option (PyData × Pl))
  lf : Option (PyData → Option PyData) := none
  st : Option ((PyData → Option PyData) → Option PyData) := none

/-- what a lambda captures: data alone -/
def capD : Option Sl → Option Sl
  | some (.d x) => some (.d x)
  | _ => none
def wipeG (Γ : Gm) : List Nat → Gm
  | [] => Γ
  | v :: vs => (wipeG Γ vs).set v none
/-- an object of the def's own, read -/
def rdO (Γ : Gm) (S : Pl) (i : Nat) : Option PyData := match Γ[i]? with
  | some (some (.ownL xs)) => some (.list xs)
  | some (some (.ownD kvs)) => some (.dict kvs)
  | some (some .pool) => some (.list S)
  | _ => none
mutual
def bindG : Tg → PyData → Gm → Pl → Option (Gm × Pl)
  | .nm i => fun x Γ S => if i < Γ.length then some (Γ.set i (some (.d x)), S) else none
  | .tp gs => fun x Γ S => match x with
    | .tuple xs => bindGs gs xs Γ S
    | _ => none
  | .sb i k => fun x Γ S => match Γ[i]? with
    | some (some .pool) => if k < S.length then some (Γ, S.set k x) else none
    | _ => none
def bindGs : Tgs → List PyData → Gm → Pl → Option (Gm × Pl)
  | .nil => fun xs Γ S => match xs with
    | [] => some (Γ, S)
    | _ => none
  | .cons g gs => fun xs Γ S => match xs with
    | x :: xs => (bindG g x Γ S).bind fun p => bindGs gs xs p.1 p.2
    | _ => none
end
def lcRun (f : PyData → Pl → Option (List PyData × Pl)) : List PyData → Pl → List PyData → Option (List PyData × Pl)
  | [], S, acc => some (acc, S)
  | x :: xs, S, acc => (f x S).bind fun p => if acc.length + p.1.length ≤ SL then lcRun f xs p.2 (acc ++ p.1) else none
mutual
def evE (c : Cf) : Tm → Gm → Pl → Re
  | .var i => fun Γ S => match Γ[i]? with
    | some (some (.d x)) => some (x, S)
    | _ => none
  | .non => fun _ S => some (.none, S)
  | .bl b => fun _ S => some (.bool b, S)
  | .int i => fun _ S => some (.int i, S)
  | .str x => fun _ S => some (.str x, S)
  | .glo g => fun _ S => some (c.gl g, S)
  | .bin op a b => fun Γ S => (evE c a Γ S).bind fun p => (evE c b Γ p.2).bind fun q => (binD op p.1 q.1).map fun d => (d, q.2)
  | .neg a => fun Γ S => (evE c a Γ S).bind fun p => (intD p.1).map fun i => (.int (-i), p.2)
  | .cmp op a b => fun Γ S => (evE c a Γ S).bind fun p => (evE c b Γ p.2).bind fun q => (cmpD op p.1 q.1).map fun d => (.bool d, q.2)
  | .cmp2 o1 o2 a b d => fun Γ S => (evE c a Γ S).bind fun p => (evE c b Γ p.2).bind fun q => (cmpD o1 p.1 q.1).bind fun t => match t with
    | false => some (.bool false, q.2)
    | true => (evE c d Γ q.2).bind fun r => (cmpD o2 q.1 r.1).map fun t => (.bool t, r.2)
  | .isc ng a k => fun Γ S => (evE c a Γ S).bind fun p => (isD p.1 k).map fun t => (.bool (xor ng t), p.2)
  | .ino ng a i => fun Γ S => (evE c a Γ S).bind fun p => (rdO Γ p.2 i).bind fun o => (cmpD (cond ng .NotIn .In) p.1 o).map fun t => (.bool t, p.2)
  | .boo op as => fun Γ S => evB c op as Γ S
  | .not a => fun Γ S => (evE c a Γ S).bind fun p => (boolD p.1).map fun b => (.bool (!b), p.2)
  | .ite k a b => fun Γ S => (evE c k Γ S).bind fun p => (boolD p.1).bind fun t => cond t (evE c a Γ p.2) (evE c b Γ p.2)
  | .ix a b => fun Γ S => (evE c a Γ S).bind fun p => (evE c b Γ p.2).bind fun q => (ixD p.1 q.1).map fun d => (d, q.2)
  | .ixo i b => fun Γ S => (evE c b Γ S).bind fun q => (rdO Γ q.2 i).bind fun o => (ixD o q.1).map fun d => (d, q.2)
  | .sl a lo hi => fun Γ S => (evE c a Γ S).bind fun p => (evO c lo Γ p.2).bind fun l => (evO c hi Γ l.2).bind fun h => (slD p.1 l.1 h.1).map fun d => (d, h.2)
  | .tup as => fun Γ S => (evs c as Γ S).bind fun p => if p.1.length ≤ SL then some (.tuple p.1, p.2) else none
  | .lst as => fun Γ S => (evs c as Γ S).bind fun p => if p.1.length ≤ SL then some (.list p.1, p.2) else none
  | .dic0 => fun _ S => some (.dict [], S)
  | .dic1 k v => fun Γ S => (evE c k Γ S).bind fun p => (evE c v Γ p.2).bind fun q => match p.1 with
    | .tuple ks => (keyOf (.tuple ks)).bind fun y => if y.depth ≤ 8 then some (.dict [(.tuple ks, q.1)], q.2) else none
    | _ => none
  | .bi f a => fun Γ S => (evE c a Γ S).bind fun p => (biD f p.1).map fun d => (d, p.2)
  | .bio f i => fun Γ S => (rdO Γ S i).bind fun o => (biD f o).map fun d => (d, S)
  | .bj f a b => fun Γ S => (evE c a Γ S).bind fun p => (evE c b Γ p.2).bind fun q => (bjD f p.1 q.1).map fun d => (d, q.2)
  | .isa a t => fun Γ S => (evE c a Γ S).bind fun p => some (.bool (isaD p.1 t), p.2)
  | .sset a => fun Γ S => (evE c a Γ S).bind fun p => (ssetD p.1).map fun d => (d, p.2)
  | .lrg as => fun Γ S => (evs c as Γ S).bind fun p => (lrgD p.1).map fun d => (.list d, p.2)
  | .vmx a => fun Γ S => (evE c a Γ S).bind fun p => (vmxD p.1).map fun d => (d, p.2)
  | .dic a => fun Γ S => (evE c a Γ S).bind fun p => (dicD p.1).map fun d => (d, p.2)
  | .get a k x => fun Γ S => (evE c a Γ S).bind fun p => (evE c k Γ p.2).bind fun q => (evE c x Γ q.2).bind fun r => (getD' p.1 q.1 r.1).map fun d => (d, r.2)
  | .geto i k x => fun Γ S => (evE c k Γ S).bind fun q => (evE c x Γ q.2).bind fun r => (rdO Γ r.2 i).bind fun o => (getD' o q.1 r.1).map fun d => (d, r.2)
  | .upper a => fun Γ S => (evE c a Γ S).bind fun p => (upD p.1).map fun d => (d, p.2)
  | .call f as => fun Γ S => (evs c as Γ S).bind fun p => (c.fn f).bind fun g => (g p.1).map fun d => (d, p.2)
  | .callK f as => fun Γ S => (evs c as Γ S).bind fun p => (c.fn f).bind fun g => (g p.1.reverse).map fun d => (d, p.2)
  | .callP f i as => fun Γ S => match Γ[i]? with
    | some (some .pool) => (evs c as Γ S).bind fun p => (c.pf f).bind fun g => g p.1 p.2
    | _ => none
  | .callF i a => fun Γ S => match Γ[i]? with
    | some (some .fn) => (evE c a Γ S).bind fun p => c.lf.bind fun g => (g p.1).map fun d => (d, p.2)
    | _ => none
  | .lc elt tg it ifs own => fun Γ S => (evI c it Γ S).bind fun p => (lcRun (fun x S => (bindG tg x (wipeG Γ own) S).bind fun b => (evC c ifs b.1 b.2).bind fun t =>
      cond t.1 ((evE c elt b.1 t.2).bind fun y => some ([y.1], y.2)) (some ([], t.2))) p.1 p.2 []).bind fun q => some (.list q.1, q.2)
  | .lc2 elt tg it ifs tg1 it1 ifs1 own own1 => fun Γ S => (evI c it Γ S).bind fun p => (lcRun (fun x S => (bindG tg x (wipeG Γ own) S).bind fun b => (evC c ifs b.1 b.2).bind fun t =>
      cond t.1 ((evI c it1 b.1 t.2).bind fun p1 => lcRun (fun x S => (bindG tg1 x (wipeG b.1 own1) S).bind fun b1 => (evC c ifs1 b1.1 b1.2).bind fun t1 =>
        cond t1.1 ((evE c elt b1.1 t1.2).bind fun y => some ([y.1], y.2)) (some ([], t1.2))) p1.1 p1.2 []) (some ([], t.2))) p.1 p.2 []).bind fun q => some (.list q.1, q.2)
  | .settle caps b => fun Γ S => match Γ[(0 : Nat)]? with
    | some (some .pool) => c.st.bind fun st => (st fun x => (evE c b (some (.d x) :: caps.map fun i => capD (Γ[i]?).join) []).map (·.1)).map fun d => (d, S)
    | _ => none
/-- and, or: values (bools but for the last) -/
def evB (c : Cf) (op : BoolOp) : Ts → Gm → Pl → Re
  | .nil => fun _ _ => none
  | .cons a as => fun Γ S => match as with
    | .nil => evE c a Γ S
    | .cons _ _ => (evE c a Γ S).bind fun p => (boolD p.1).bind fun t => match op with
      | .And => cond t (evB c op as Γ p.2) (some (.bool false, p.2))
      | .Or => cond t (some (.bool true, p.2)) (evB c op as Γ p.2)
def evs (c : Cf) : Ts → Gm → Pl → Option (List PyData × Pl)
  | .nil => fun _ S => some ([], S)
  | .cons a as => fun Γ S => (evE c a Γ S).bind fun p => (evs c as Γ p.2).bind fun q => some (p.1 :: q.1, q.2)
/-- a slice's bound -/
def evO (c : Cf) : Os → Gm → Pl → Option (Option Int × Pl)
  | .no => fun _ S => some (none, S)
  | .so a => fun Γ S => (evE c a Γ S).bind fun p => (intD p.1).map fun i => (some i, p.2)
/-- a comprehension's test -/
def evC (c : Cf) : Os → Gm → Pl → Option (Bool × Pl)
  | .no => fun _ S => some (true, S)
  | .so a => fun Γ S => (evE c a Γ S).bind fun p => (boolD p.1).map fun i => (i, p.2)
def evI (c : Cf) : Im → Gm → Pl → Option (List PyData × Pl)
  | .seq a => fun Γ S => (evE c a Γ S).bind fun p => (seqD p.1).map fun xs => (xs, p.2)
  | .rng1 a => fun Γ S => (evE c a Γ S).bind fun p => (rgD [p.1]).map fun xs => (xs, p.2)
  | .rng2 a b => fun Γ S => (evE c a Γ S).bind fun p => (evE c b Γ p.2).bind fun q => (rgD [p.1, q.1]).map fun xs => (xs, q.2)
  | .enum a => fun Γ S => (evE c a Γ S).bind fun p => (seqD p.1).map fun xs => (xs.mapIdx fun i x => .tuple [.int i, x], p.2)
  | .zip a b => fun Γ S => (evE c a Γ S).bind fun p => (evE c b Γ p.2).bind fun q => match p.1, q.1 with
    | .list xs, .list ys => some (xs.zipWith (fun x y => .tuple [x, y]) ys, q.2)
    | .tuple xs, .tuple ys => some (xs.zipWith (fun x y => .tuple [x, y]) ys, q.2)
    | _, _ => none
  | .dic a => fun Γ S => (evE c a Γ S).bind fun p => match p.1 with
    | .dict kvs => some (kvs.map (·.1), p.2)
    | _ => none
end

inductive Out
  | nx (Γ : Gm) (S : Pl) | rt (d : PyData) (S : Pl) | bk (Γ : Gm) (S : Pl)
def Out.thn (o : Out) (f : Gm → Pl → Option Out) : Option Out := match o with
  | .nx Γ S => f Γ S
  | o => some o
def forRun (f : PyData → Gm → Pl → Option Out) : List PyData → Gm → Pl → Option Out
  | [], Γ, S => some (.nx Γ S)
  | x :: xs, Γ, S => (f x Γ S).bind fun o => match o with
    | .nx Γ S => forRun f xs Γ S
    | .bk Γ S => some (.nx Γ S)
    | .rt d S => some (.rt d S)
def whlRun (k : Gm → Pl → Re) (f : Gm → Pl → Option Out) : Nat → Gm → Pl → Option Out
  | 0, _, _ => none
  | n + 1, Γ, S => (k Γ S).bind fun p => (boolD p.1).bind fun t => cond t ((f Γ p.2).bind fun o => match o with
    | .nx Γ S => whlRun k f n Γ S
    | .bk Γ S => some (.nx Γ S)
    | .rt d S => some (.rt d S)) (some (.nx Γ p.2))
def setN (Γ : Gm) : List Nat → List PyData → Option Gm
  | [], [] => some Γ
  | i :: is, d :: ds => if i < Γ.length then setN (Γ.set i (some (.d d))) is ds else none
  | _, _ => none
mutual
def evS (c : Cf) : Sm → Gm → Pl → Option Out
  | .set i e => fun Γ S => (evE c e Γ S).bind fun p => if i < Γ.length then some (.nx (Γ.set i (some (.d p.1))) p.2) else none
  | .setLc i e => fun Γ S => (evE c e Γ S).bind fun p => if i < Γ.length then some (.nx (Γ.set i (some (.d p.1))) p.2) else none
  | .own i e => fun Γ S => (evE c e Γ S).bind fun p => if i < Γ.length then (match p.1 with
    | .list xs => some (.nx (Γ.set i (some (.ownL xs))) p.2)
    | .dict kvs => some (.nx (Γ.set i (some (.ownD kvs))) p.2)
    | _ => none) else none
  | .par is as => fun Γ S => (evs c as Γ S).bind fun p => (setN Γ is p.1).map fun Γ' => .nx Γ' p.2
  | .asg tg e => fun Γ S => (evE c e Γ S).bind fun p => (bindG tg p.1 Γ p.2).map fun q => .nx q.1 q.2
  | .aug i e => fun Γ S => match Γ[i]? with
    | some (some (.d x)) => (evE c e Γ S).bind fun p => (intD x).bind fun a => (intD p.1).map fun b => .nx (Γ.set i (some (.d (.int (a + b))))) p.2
    | _ => none
  | .put i k v => fun Γ S => (evE c v Γ S).bind fun p => (evE c k Γ p.2).bind fun q => match Γ[i]?, q.1 with
    | some (some (.ownD kvs)), .tuple ks => (keyOf (.tuple ks)).bind fun y => if y.depth ≤ 8 ∧ kvs.length < SL then some (.nx (Γ.set i (some (.ownD (storeD kvs y p.1)))) q.2) else none
    | _, _ => none
  | .app i e => fun Γ S => (evE c e Γ S).bind fun p => match Γ[i]? with
    | some (some (.ownL xs)) => if xs.length < SL then some (.nx (Γ.set i (some (.ownL (xs ++ [p.1])))) p.2) else none
    | _ => none
  | .ext i as => fun Γ S => (evs c as Γ S).bind fun p => match Γ[i]? with
    | some (some (.ownL xs)) => if xs.length + p.1.length ≤ SL then some (.nx (Γ.set i (some (.ownL (xs ++ p.1)))) p.2) else none
    | _ => none
  | .ret e => fun Γ S => (evE c e Γ S).bind fun p => some (.rt p.1 p.2)
  | .reto i => fun Γ S => match Γ[i]? with
    | some (some (.ownL xs)) => some (.rt (.list xs) S)
    | some (some (.ownD xs)) => some (.rt (.dict xs) S)
    | _ => none
  | .ife k a b => fun Γ S => (evE c k Γ S).bind fun p => (boolD p.1).bind fun t => cond t (evSs c a Γ p.2) (evSs c b Γ p.2)
  | .for_ tg it b => fun Γ S => (evI c it Γ S).bind fun p => forRun (fun x Γ S => (bindG tg x Γ S).bind fun q => evSs c b q.1 q.2) p.1 Γ p.2
  | .foro tg i b => fun Γ S => match Γ[i]? with
    | some (some (.ownL xs)) => forRun (fun x Γ S => (bindG tg x Γ S).bind fun q => evSs c b q.1 q.2) xs (Γ.set i (some (.d (.list xs)))) S
    | _ => none
  | .whl n k b => fun Γ S => whlRun (evE c k) (evSs c b) n Γ S
  | .brk => fun Γ S => some (.bk Γ S)
def evSs (c : Cf) : Ss → Gm → Pl → Option Out
  | .nil => fun Γ S => some (.nx Γ S)
  | .cons s r => fun Γ S => (evS c s Γ S).bind fun o => o.thn (evSs c r)
end
/-- a def: its name, its names by slot (the parameters first), how many parameters, whether it takes the pool, a function, its body -/
structure DefT where
  nm : Str
  N : List Str
  np : Nat
  pool : Bool
  fna : Bool
  body : Ss
def Out.val : Out → Re
  | .rt d S => some (d, S)
  | .nx _ S => some (.none, S)
  | .bk _ _ => none
/-- a def's body, from its parameters -/
def DefT.run (D : DefT) (c : Cf) (ps : Gm) (S : Pl) : Re := (evSs c D.body (ps ++ List.replicate (D.N.length - D.np) none) S).bind Out.val
end K26
namespace K26
open PySem L2
def t_is_integer : Ss := (.cons (.ret (.boo .And (.cons (.isa (.var 0) .int) (.cons (.not (.isa (.var 0) .bool)) .nil)))) .nil)
def n_is_integer : List Str := ["value"]
def d_is_integer : DefT := ⟨"is_integer", n_is_integer, 1, false, false, t_is_integer⟩
def t_is_within : Ss := (.cons (.ret (.boo .And (.cons (.call 0 (.cons (.var 0) .nil)) (.cons (.cmp2 .LtE .LtE (.var 1) (.var 0) (.var 2)) .nil)))) .nil)
def n_is_within : List Str := ["value", "low", "high"]
def d_is_within : DefT := ⟨"is_within", n_is_within, 3, false, false, t_is_within⟩
def t_is_use : Ss := (.cons (.ret (.boo .And (.cons (.call 0 (.cons (.var 0) .nil)) (.cons (.cmp .GtE (.var 0) (.int 0)) .nil)))) .nil)
def n_is_use : List Str := ["value"]
def d_is_use : DefT := ⟨"is_use", n_is_use, 1, false, false, t_is_use⟩
def t_are_uses : Ss := (.cons (.ret (.boo .And (.cons (.isa (.var 0) .tuple) (.cons (.bi .all (.lc (.call 2 (.cons (.var 1) .nil)) (.nm 1) (.seq (.var 0)) .no [1])) .nil)))) .nil)
def n_are_uses : List Str := ["value", "use"]
def d_are_uses : DefT := ⟨"are_uses", n_are_uses, 1, false, false, t_are_uses⟩
def t_are_pairs : Ss := (.cons (.ife (.not (.isa (.var 0) .tuple)) (.cons (.ret (.bl false)) .nil) .nil) (.cons (.ret (.bi .all (.lc (.boo .And (.cons (.call 3 (.cons (.var 1) .nil)) (.cons (.cmp .Eq (.bi .len (.var 1)) (.int 2)) (.cons (.cmp .LtE (.ix (.var 1) (.int 0)) (.ix (.var 1) (.int 1))) .nil)))) (.nm 1) (.seq (.var 0)) .no [1]))) .nil))
def n_are_pairs : List Str := ["value", "pair"]
def d_are_pairs : DefT := ⟨"are_pairs", n_are_pairs, 1, false, false, t_are_pairs⟩
def t_are_tiers : Ss := (.cons (.ife (.boo .Or (.cons (.not (.isa (.var 0) .tuple)) (.cons (.not (.cmp2 .LtE .LtE (.int 1) (.bi .len (.var 0)) (.glo 1))) .nil))) (.cons (.ret (.bl false)) .nil) .nil) (.cons (.asg (.tp (.cons (.nm 1) (.cons (.nm 2) .nil))) (.tup (.cons (.int 0) (.cons (.int 0) .nil)))) (.cons (.for_ (.nm 3) (.seq (.var 0)) (.cons (.ife (.boo .Or (.cons (.not (.isa (.var 3) .tuple)) (.cons (.cmp .NotEq (.bi .len (.var 3)) (.int 2)) .nil))) (.cons (.ret (.bl false)) .nil) .nil) (.cons (.ife (.boo .Or (.cons (.not (.call 1 (.cons (.ix (.var 3) (.int 0)) (.cons (.var 1) (.cons (.var 2) .nil))))) (.cons (.not (.call 1 (.cons (.ix (.var 3) (.int 1)) (.cons (.int 0) (.cons (.glo 7) .nil))))) .nil))) (.cons (.ret (.bl false)) .nil) .nil) (.cons (.par [1, 2] (.cons (.bin .Add (.ix (.var 3) (.int 0)) (.int 1)) (.cons (.glo 2) .nil))) .nil)))) (.cons (.ret (.bl true)) .nil))))
def n_are_tiers : List Str := ["value", "low", "high", "tier"]
def d_are_tiers : DefT := ⟨"are_tiers", n_are_tiers, 1, false, false, t_are_tiers⟩
def t_is_streak : Ss := (.cons (.ife (.isc false (.var 0) none) (.cons (.ret (.bl true)) .nil) .nil) (.cons (.ife (.boo .Or (.cons (.not (.isa (.var 0) .tuple)) (.cons (.cmp .NotEq (.bi .len (.var 0)) (.int 3)) .nil))) (.cons (.ret (.bl false)) .nil) .nil) (.cons (.ife (.boo .Or (.cons (.not (.call 1 (.cons (.ix (.var 0) (.int 0)) (.cons (.int 1) (.cons (.glo 6) .nil))))) (.cons (.not (.call 1 (.cons (.ix (.var 0) (.int 1)) (.cons (.int 1) (.cons (.glo 5) .nil))))) .nil))) (.cons (.ret (.bl false)) .nil) .nil) (.cons (.ret (.call 1 (.cons (.ix (.var 0) (.int 2)) (.cons (.int 0) (.cons (.glo 7) .nil))))) .nil))))
def n_is_streak : List Str := ["value"]
def d_is_streak : DefT := ⟨"is_streak", n_is_streak, 1, false, false, t_is_streak⟩
def t_is_form : Ss := (.cons (.ife (.boo .Or (.cons (.not (.isa (.var 0) .tuple)) (.cons (.cmp .NotEq (.bi .len (.var 0)) (.int 7)) .nil))) (.cons (.ret (.bl false)) .nil) .nil) (.cons (.asg (.tp (.cons (.nm 1) (.cons (.nm 2) (.cons (.nm 3) (.cons (.nm 4) (.cons (.nm 5) (.cons (.nm 6) (.cons (.nm 7) .nil)))))))) (.var 0)) (.cons (.ife (.boo .Or (.cons (.not (.isa (.var 1) .tuple)) (.cons (.not (.cmp2 .LtE .LtE (.int 1) (.bi .len (.var 1)) (.glo 0))) (.cons (.not (.call 5 (.cons (.var 2) .nil))) .nil)))) (.cons (.ret (.bl false)) .nil) .nil) (.cons (.ife (.boo .Or (.cons (.not (.bi .all (.lc (.call 1 (.cons (.var 8) (.cons (.int 0) (.cons (.glo 7) .nil)))) (.nm 8) (.seq (.var 1)) .no [8]))) (.cons (.not (.call 6 (.cons (.var 7) .nil))) .nil))) (.cons (.ret (.bl false)) .nil) .nil) (.cons (.ife (.boo .Or (.cons (.not (.call 1 (.cons (.var 3) (.cons (.int 0) (.cons (.glo 3) .nil))))) (.cons (.not (.call 1 (.cons (.var 4) (.cons (.int 0) (.cons (.glo 4) .nil))))) .nil))) (.cons (.ret (.bl false)) .nil) .nil) (.cons (.ret (.boo .And (.cons (.call 1 (.cons (.var 5) (.cons (.int 0) (.cons (.glo 7) .nil)))) (.cons (.boo .Or (.cons (.isc false (.var 6) none) (.cons (.call 1 (.cons (.var 6) (.cons (.var 5) (.cons (.glo 7) .nil)))) .nil))) .nil)))) .nil))))))
def n_is_form : List Str := ["value", "fees", "tiers", "included", "carry", "least", "most", "streak", "fee"]
def d_is_form : DefT := ⟨"is_form", n_is_form, 1, false, false, t_is_form⟩
def t_is_state : Ss := (.cons (.ife (.boo .Or (.cons (.not (.isa (.var 1) .tuple)) (.cons (.cmp .NotEq (.bi .len (.var 1)) (.int 3)) .nil))) (.cons (.ret (.bl false)) .nil) .nil) (.cons (.set 2 (.ite (.isc false (.ix (.var 0) (.int 6)) none) (.int 0) (.ix (.ix (.var 0) (.int 6)) (.int 1)))) (.cons (.ife (.boo .Or (.cons (.not (.call 1 (.cons (.ix (.var 1) (.int 0)) (.cons (.int 0) (.cons (.ix (.var 0) (.int 3)) .nil))))) (.cons (.not (.call 1 (.cons (.ix (.var 1) (.int 1)) (.cons (.int 0) (.cons (.var 2) .nil))))) .nil))) (.cons (.ret (.bl false)) .nil) .nil) (.cons (.ret (.call 1 (.cons (.ix (.var 1) (.int 2)) (.cons (.int 0) (.cons (.bin .Sub (.bi .len (.ix (.var 0) (.int 0))) (.int 1)) .nil))))) .nil))))
def n_is_state : List Str := ["form", "value", "row"]
def d_is_state : DefT := ⟨"is_state", n_is_state, 2, false, false, t_is_state⟩
def t_uncut : Ss := (.cons (.set 3 (.bj .mx (.int 0) (.bin .Sub (.bin .Sub (.var 2) (.ix (.var 0) (.int 2))) (.ix (.var 1) (.int 0))))) (.cons (.par [4, 5] (.cons (.ix (.ix (.var 0) (.int 0)) (.ix (.var 1) (.int 2))) (.cons (.int 0) .nil))) (.cons (.for_ (.tp (.cons (.nm 6) (.cons (.nm 7) .nil))) (.seq (.ix (.var 0) (.int 1))) (.cons (.aug 4 (.bin .Mult (.bin .Sub (.var 7) (.var 5)) (.bj .mx (.int 0) (.bin .Sub (.var 3) (.var 6))))) (.cons (.set 5 (.var 7)) .nil))) (.cons (.ret (.var 4)) .nil))))
def n_uncut : List Str := ["form", "state", "use", "beyond", "found", "before", "first", "price"]
def d_uncut : DefT := ⟨"uncut", n_uncut, 3, false, false, t_uncut⟩
def t_charge : Ss := (.cons (.asg (.tp (.cons (.nm 3) (.cons (.nm 4) (.cons (.nm 5) .nil)))) (.sl (.var 0) (.so (.int 4)) .no)) (.cons (.set 6 (.bj .mx (.var 3) (.call 9 (.cons (.var 0) (.cons (.var 1) (.cons (.var 2) .nil)))))) (.cons (.ife (.isc true (.var 4) none) (.cons (.set 6 (.bj .mn (.var 4) (.var 6))) .nil) .nil) (.cons (.ife (.boo .And (.cons (.isc true (.var 5) none) (.cons (.cmp .Eq (.ix (.var 1) (.int 1)) (.ix (.var 5) (.int 1))) .nil))) (.cons (.set 6 (.bj .mx (.int 0) (.bin .Sub (.var 6) (.ix (.var 5) (.int 2))))) .nil) .nil) (.cons (.ret (.var 6)) .nil)))))
def n_charge : List Str := ["form", "state", "use", "least", "most", "streak", "found"]
def d_charge : DefT := ⟨"charge", n_charge, 3, false, false, t_charge⟩
def t_onward : Ss := (.cons (.set 3 (.int 0)) (.cons (.ife (.boo .And (.cons (.isc true (.ix (.var 0) (.int 6)) none) (.cons (.cmp .GtE (.var 2) (.ix (.ix (.var 0) (.int 6)) (.int 0))) .nil))) (.cons (.set 3 (.bj .mn (.ix (.ix (.var 0) (.int 6)) (.int 1)) (.bin .Add (.ix (.var 1) (.int 1)) (.int 1)))) .nil) .nil) (.cons (.ret (.tup (.cons (.bj .mn (.ix (.var 0) (.int 3)) (.bj .mx (.int 0) (.bin .Sub (.bin .Add (.ix (.var 0) (.int 2)) (.ix (.var 1) (.int 0))) (.var 2)))) (.cons (.var 3) (.cons (.bin .Mod (.bin .Add (.ix (.var 1) (.int 2)) (.int 1)) (.bi .len (.ix (.var 0) (.int 0)))) .nil))))) .nil)))
def n_onward : List Str := ["form", "state", "use", "busy"]
def d_onward : DefT := ⟨"onward", n_onward, 3, false, false, t_onward⟩
def t_walked : Ss := (.cons (.par [2, 3] (.cons (.int 0) (.cons (.glo 8) .nil))) (.cons (.for_ (.nm 4) (.seq (.var 1)) (.cons (.aug 2 (.call 10 (.cons (.var 0) (.cons (.var 3) (.cons (.var 4) .nil))))) (.cons (.set 3 (.call 11 (.cons (.var 0) (.cons (.var 3) (.cons (.var 4) .nil))))) .nil))) (.cons (.ret (.tup (.cons (.var 2) (.cons (.var 3) .nil)))) .nil)))
def n_walked : List Str := ["form", "uses", "found", "state", "use"]
def d_walked : DefT := ⟨"walked", n_walked, 2, false, false, t_walked⟩
def t_far_use : Ss := (.cons (.set 1 (.bin .Add (.bin .Add (.ix (.var 0) (.int 2)) (.ix (.var 0) (.int 3))) (.ix (.ix (.ix (.var 0) (.int 1)) (.neg (.int 1))) (.int 0)))) (.cons (.ret (.ite (.isc false (.ix (.var 0) (.int 6)) none) (.var 1) (.bj .mx (.var 1) (.ix (.ix (.var 0) (.int 6)) (.int 0))))) .nil))
def n_far_use : List Str := ["form", "found"]
def d_far_use : DefT := ⟨"far_use", n_far_use, 1, false, false, t_far_use⟩
def t_bends : Ss := (.cons (.par [2, 3] (.cons (.call 13 (.cons (.var 0) .nil)) (.cons (.ix (.ix (.ix (.var 0) (.int 1)) (.neg (.int 1))) (.int 1)) .nil))) (.cons (.own 4 (.lst (.cons (.ix (.var 0) (.int 4)) .nil))) (.cons (.ife (.isc true (.ix (.var 0) (.int 5)) none) (.cons (.app 4 (.ix (.var 0) (.int 5))) .nil) .nil) (.cons (.ife (.isc true (.ix (.var 0) (.int 6)) none) (.cons (.app 4 (.ix (.ix (.var 0) (.int 6)) (.int 2))) .nil) .nil) (.cons (.own 5 (.lst .nil)) (.cons (.foro (.nm 6) 4 (.cons (.set 7 (.ite (.cmp .Eq (.var 3) (.int 0)) (.neg (.int 1)) (.bin .FloorDiv (.bin .Sub (.var 6) (.call 9 (.cons (.var 0) (.cons (.var 1) (.cons (.var 2) .nil))))) (.var 3)))) (.cons (.ife (.cmp .GtE (.var 7) (.int 0)) (.cons (.ext 5 (.cons (.bin .Add (.var 2) (.var 7)) (.cons (.bin .Add (.bin .Add (.var 2) (.var 7)) (.int 1)) .nil))) .nil) .nil) .nil))) (.cons (.reto 5) .nil)))))))
def n_bends : List Str := ["form", "state", "first", "price", "cuts", "found", "cut", "units"]
def d_bends : DefT := ⟨"bends", n_bends, 2, false, false, t_bends⟩
def t_turns : Ss := (.cons (.set 4 (.bj .mx (.call 13 (.cons (.var 0) .nil)) (.call 13 (.cons (.var 2) .nil)))) (.cons (.set 5 (.bin .Add (.call 14 (.cons (.var 0) (.cons (.var 1) .nil))) (.call 14 (.cons (.var 2) (.cons (.var 3) .nil))))) (.cons (.ret (.bin .Add (.lst (.cons (.var 4) .nil)) (.sset (.lc (.var 6) (.nm 6) (.seq (.var 5)) (.so (.cmp .Gt (.var 6) (.var 4))) [6])))) .nil)))
def n_turns : List Str := ["one", "state", "other", "other_state", "first", "found", "use"]
def d_turns : DefT := ⟨"turns", n_turns, 4, false, false, t_turns⟩
def t_gap : Ss := (.cons (.ret (.bin .Sub (.call 10 (.cons (.var 0) (.cons (.var 1) (.cons (.var 4) .nil)))) (.call 10 (.cons (.var 2) (.cons (.var 3) (.cons (.var 4) .nil)))))) .nil)
def n_gap : List Str := ["one", "state", "other", "other_state", "use"]
def d_gap : DefT := ⟨"gap", n_gap, 5, false, false, t_gap⟩
def t_growth : Ss := (.cons (.ret (.bin .Sub (.call 16 (.cons (.var 0) (.cons (.var 1) (.cons (.var 2) (.cons (.var 3) (.cons (.bin .Add (.var 4) (.int 1)) .nil)))))) (.call 16 (.cons (.var 0) (.cons (.var 1) (.cons (.var 2) (.cons (.var 3) (.cons (.var 4) .nil)))))))) .nil)
def n_growth : List Str := ["one", "state", "other", "other_state", "use"]
def d_growth : DefT := ⟨"growth", n_growth, 5, false, false, t_growth⟩
def t_lead_of : Ss := (.cons (.asg (.tp (.cons (.tp (.cons (.nm 3) (.cons (.nm 4) .nil))) (.cons (.tp (.cons (.nm 5) (.cons (.nm 6) .nil))) .nil))) (.tup (.cons (.call 12 (.cons (.var 0) (.cons (.var 2) .nil))) (.cons (.call 12 (.cons (.var 1) (.cons (.var 2) .nil))) .nil)))) (.cons (.ret (.tup (.cons (.bin .Sub (.var 3) (.var 5)) (.cons (.tup (.cons (.var 4) (.cons (.var 6) .nil))) .nil)))) .nil))
def n_lead_of : List Str := ["one", "other", "uses", "first", "state", "second", "other_state"]
def d_lead_of : DefT := ⟨"lead_of", n_lead_of, 3, false, false, t_lead_of⟩
def t_loss_of : Ss := (.cons (.asg (.tp (.cons (.nm 2) (.cons (.nm 3) .nil))) (.call 12 (.cons (.var 0) (.cons (.lc (.ix (.var 6) (.int 0)) (.nm 6) (.seq (.var 1)) .no [6]) .nil)))) (.cons (.asg (.tp (.cons (.nm 4) (.cons (.nm 5) .nil))) (.call 12 (.cons (.var 0) (.cons (.lc (.ix (.var 6) (.int 1)) (.nm 6) (.seq (.var 1)) .no [6]) .nil)))) (.cons (.ret (.tup (.cons (.bin .Sub (.var 2) (.var 4)) (.cons (.tup (.cons (.var 3) (.cons (.var 5) .nil))) .nil)))) .nil)))
def n_loss_of : List Str := ["form", "pairs", "first", "state", "second", "other_state", "pair"]
def d_loss_of : DefT := ⟨"loss_of", n_loss_of, 2, false, false, t_loss_of⟩
def t_is_ascending : Ss := (.cons (.ret (.bi .all (.lc (.cmp .Lt (.var 1) (.var 2)) (.tp (.cons (.nm 1) (.cons (.nm 2) .nil))) (.zip (.var 0) (.sl (.var 0) (.so (.int 1)) .no)) .no [1, 2]))) .nil)
def n_is_ascending : List Str := ["rows", "row", "after"]
def d_is_ascending : DefT := ⟨"is_ascending", n_is_ascending, 1, false, false, t_is_ascending⟩
def t_known_numbers : Ss := (.cons (.ife (.not (.isa (.var 3) .tuple)) (.cons (.ret .non) .nil) .nil) (.cons (.for_ (.nm 4) (.seq (.var 3)) (.cons (.ife (.boo .Or (.cons (.not (.isa (.var 4) .tuple)) (.cons (.cmp .NotEq (.bi .len (.var 4)) (.int 3)) (.cons (.not (.call 0 (.cons (.ix (.var 4) (.int 2)) .nil))) .nil)))) (.cons (.ret .non) .nil) .nil) (.cons (.ife (.boo .Or (.cons (.not (.call 8 (.cons (.var 0) (.cons (.ix (.var 4) (.int 0)) .nil)))) (.cons (.not (.call 8 (.cons (.var 1) (.cons (.ix (.var 4) (.int 1)) .nil)))) .nil))) (.cons (.ret .non) .nil) .nil) .nil))) (.cons (.set 5 (.dic (.lc (.tup (.cons (.sl (.var 4) .no (.so (.int 2))) (.cons (.ix (.var 4) (.int 2)) .nil))) (.nm 4) (.seq (.var 3)) .no [4]))) (.cons (.ife (.boo .Or (.cons (.not (.call 20 (.cons (.var 3) .nil))) (.cons (.cmp .NotEq (.bi .len (.var 5)) (.bi .len (.var 3))) (.cons (.cmp .Lt (.get (.var 5) (.tup (.cons (.glo 8) (.cons (.glo 8) .nil))) (.neg (.int 1))) (.int 0)) .nil)))) (.cons (.ret .non) .nil) .nil) (.cons (.ret (.ite (.cmp .LtE (.vmx (.var 5)) (.var 2)) (.var 5) .non)) .nil)))))
def n_known_numbers : List Str := ["one", "other", "amount", "table", "row", "found"]
def d_known_numbers : DefT := ⟨"known_numbers", n_known_numbers, 4, false, false, t_known_numbers⟩
def t_near_and_far : Ss := (.cons (.ife (.isc false (.var 1) none) (.cons (.ret (.tup (.cons (.lrg (.cons (.ix (.var 0) (.int 0)) .nil)) (.cons (.var 0) .nil)))) .nil) .nil) (.cons (.set 2 (.lrg (.cons (.bj .mn (.ix (.var 0) (.int 0)) (.bin .Add (.var 1) (.int 1))) .nil))) (.cons (.set 3 (.bin .Add (.lc (.var 4) (.nm 4) (.seq (.var 0)) (.so (.cmp .Lt (.var 4) (.var 1))) [4]) (.lst (.cons (.var 1) .nil)))) (.cons (.ret (.tup (.cons (.var 2) (.cons (.ite (.cmp .GtE (.var 1) (.ix (.var 0) (.int 0))) (.var 3) (.lst .nil)) .nil)))) .nil))))
def n_near_and_far : List Str := ["points", "most_use", "near", "far", "use"]
def d_near_and_far : DefT := ⟨"near_and_far", n_near_and_far, 2, false, false, t_near_and_far⟩
def t_is_never_at : Ss := (.cons (.asg (.tp (.cons (.nm 5) (.cons (.nm 6) .nil))) (.var 4)) (.cons (.set 7 (.call 15 (.cons (.var 0) (.cons (.var 5) (.cons (.var 1) (.cons (.var 6) .nil)))))) (.cons (.ife (.boo .And (.cons (.isc false (.var 2) none) (.cons (.cmp .Gt (.call 17 (.cons (.var 0) (.cons (.var 5) (.cons (.var 1) (.cons (.var 6) (.cons (.ix (.var 7) (.neg (.int 1))) .nil)))))) (.int 0)) .nil))) (.cons (.ret (.bl false)) .nil) .nil) (.cons (.asg (.tp (.cons (.nm 8) (.cons (.nm 9) .nil))) (.call 22 (.cons (.var 7) (.cons (.var 2) .nil)))) (.cons (.for_ (.nm 10) (.seq (.bin .Add (.var 8) (.var 9))) (.cons (.set 11 (.tup (.cons (.call 11 (.cons (.var 0) (.cons (.var 5) (.cons (.var 10) .nil)))) (.cons (.call 11 (.cons (.var 1) (.cons (.var 6) (.cons (.var 10) .nil)))) .nil)))) (.cons (.ife (.boo .Or (.cons (.cmp .NotIn (.var 11) (.var 3)) (.cons (.cmp .Lt (.ix (.var 3) (.var 11)) (.bin .Add (.ix (.var 3) (.var 4)) (.call 16 (.cons (.var 0) (.cons (.var 5) (.cons (.var 1) (.cons (.var 6) (.cons (.var 10) .nil)))))))) .nil))) (.cons (.ret (.bl false)) .nil) .nil) .nil))) (.cons (.ret (.bl true)) .nil))))))
def n_is_never_at : List Str := ["one", "other", "most_use", "known", "pair", "state", "other_state", "points", "near", "far", "use", "goal"]
def d_is_never_at : DefT := ⟨"is_never_at", n_is_never_at, 5, false, false, t_is_never_at⟩
def t_is_thrifty_at : Ss := (.cons (.asg (.tp (.cons (.nm 4) (.cons (.nm 5) .nil))) (.var 3)) (.cons (.asg (.tp (.cons (.nm 6) (.cons (.nm 7) .nil))) (.call 22 (.cons (.call 15 (.cons (.var 0) (.cons (.var 4) (.cons (.var 0) (.cons (.var 5) .nil))))) (.cons (.var 1) .nil)))) (.cons (.setLc 8 (.lc2 (.tup (.cons (.var 9) (.cons (.var 10) .nil))) (.nm 10) (.seq (.bin .Add (.var 6) (.sl (.var 7) .no (.so (.int 1))))) .no (.nm 9) (.seq (.var 6)) (.so (.cmp .LtE (.var 9) (.var 10))) [10, 9] [9])) (.cons (.for_ (.tp (.cons (.nm 9) (.cons (.nm 10) .nil))) (.seq (.bin .Add (.var 8) (.lc (.tup (.cons (.var 12) (.cons (.var 12) .nil))) (.nm 12) (.seq (.var 7)) .no [12]))) (.cons (.set 11 (.tup (.cons (.call 11 (.cons (.var 0) (.cons (.var 4) (.cons (.var 9) .nil)))) (.cons (.call 11 (.cons (.var 0) (.cons (.var 5) (.cons (.var 10) .nil)))) .nil)))) (.cons (.ife (.boo .Or (.cons (.cmp .NotIn (.var 11) (.var 2)) (.cons (.cmp .Lt (.ix (.var 2) (.var 11)) (.bin .Sub (.bin .Add (.ix (.var 2) (.var 3)) (.call 10 (.cons (.var 0) (.cons (.var 4) (.cons (.var 9) .nil))))) (.call 10 (.cons (.var 0) (.cons (.var 5) (.cons (.var 10) .nil)))))) .nil))) (.cons (.ret (.bl false)) .nil) .nil) .nil))) (.cons (.ret (.bl true)) .nil)))))
def n_is_thrifty_at : List Str := ["form", "most_use", "known", "pair", "state", "other_state", "near", "far", "tried", "less", "more", "goal", "use"]
def d_is_thrifty_at : DefT := ⟨"is_thrifty_at", n_is_thrifty_at, 4, false, false, t_is_thrifty_at⟩
def t_is_alike_at : Ss := (.cons (.asg (.tp (.cons (.nm 4) (.cons (.nm 5) .nil))) (.var 3)) (.cons (.set 6 (.call 15 (.cons (.var 0) (.cons (.var 4) (.cons (.var 1) (.cons (.var 5) .nil)))))) (.cons (.for_ (.nm 7) (.seq (.bin .Add (.bin .Add (.lrg (.cons (.ix (.var 6) (.int 0)) .nil)) (.var 6)) (.lst (.cons (.bin .Add (.ix (.var 6) (.neg (.int 1))) (.int 1)) .nil)))) (.cons (.ife (.cmp .NotEq (.call 16 (.cons (.var 0) (.cons (.var 4) (.cons (.var 1) (.cons (.var 5) (.cons (.var 7) .nil)))))) (.int 0)) (.cons (.ret (.bl false)) .nil) .nil) (.cons (.ife (.cmp .NotIn (.tup (.cons (.call 11 (.cons (.var 0) (.cons (.var 4) (.cons (.var 7) .nil)))) (.cons (.call 11 (.cons (.var 1) (.cons (.var 5) (.cons (.var 7) .nil)))) .nil))) (.var 2)) (.cons (.ret (.bl false)) .nil) .nil) .nil))) (.cons (.ret (.bl true)) .nil))))
def n_is_alike_at : List Str := ["one", "other", "pairs", "pair", "state", "other_state", "points", "use"]
def d_is_alike_at : DefT := ⟨"is_alike_at", n_is_alike_at, 4, false, false, t_is_alike_at⟩
def t_accepts_ahead : Ss := (.cons (.ife (.boo .Or (.cons (.not (.call 7 (.cons (.var 0) .nil))) (.cons (.not (.call 7 (.cons (.var 1) .nil))) (.cons (.not (.call 3 (.cons (.var 2) .nil))) (.cons (.not (.call 0 (.cons (.var 3) .nil))) .nil))))) (.cons (.ret (.bl false)) .nil) .nil) (.cons (.ret (.boo .And (.cons (.isc false (.var 4) none) (.cons (.cmp .Eq (.ix (.call 18 (.cons (.var 0) (.cons (.var 1) (.cons (.var 2) .nil)))) (.int 0)) (.var 3)) .nil)))) .nil))
def n_accepts_ahead : List Str := ["one", "other", "uses", "amount", "certificate"]
def d_accepts_ahead : DefT := ⟨"accepts_ahead", n_accepts_ahead, 5, false, false, t_accepts_ahead⟩
def t_accepts_loop : Ss := (.cons (.ife (.boo .Or (.cons (.not (.call 7 (.cons (.var 0) .nil))) (.cons (.not (.call 7 (.cons (.var 1) .nil))) (.cons (.not (.call 3 (.cons (.var 2) .nil))) (.cons (.not (.call 3 (.cons (.var 3) .nil))) .nil))))) (.cons (.ret (.bl false)) .nil) .nil) (.cons (.asg (.tp (.cons (.tp (.cons (.nm 5) (.cons (.nm 6) .nil))) (.cons (.tp (.cons (.nm 7) (.cons (.nm 8) .nil))) .nil))) (.tup (.cons (.call 18 (.cons (.var 0) (.cons (.var 1) (.cons (.var 2) .nil)))) (.cons (.call 18 (.cons (.var 0) (.cons (.var 1) (.cons (.bin .Add (.var 2) (.var 3)) .nil)))) .nil)))) (.cons (.ret (.boo .And (.cons (.isc false (.var 4) none) (.cons (.cmp .NotEq (.var 3) (.tup .nil)) (.cons (.cmp .Eq (.var 8) (.var 6)) (.cons (.cmp .Gt (.var 7) (.var 5)) .nil)))))) .nil)))
def n_accepts_loop : List Str := ["one", "other", "uses", "loop", "certificate", "lead", "pair", "later", "end"]
def d_accepts_loop : DefT := ⟨"accepts_loop", n_accepts_loop, 5, false, false, t_accepts_loop⟩
def t_accepts_ray : Ss := (.cons (.ife (.boo .Or (.cons (.not (.call 7 (.cons (.var 0) .nil))) (.cons (.not (.call 7 (.cons (.var 1) .nil))) (.cons (.not (.call 3 (.cons (.var 2) .nil))) (.cons (.not (.call 2 (.cons (.var 3) .nil))) .nil))))) (.cons (.ret (.bl false)) .nil) .nil) (.cons (.asg (.tp (.cons (.nm 5) (.cons (.nm 6) .nil))) (.ix (.call 18 (.cons (.var 0) (.cons (.var 1) (.cons (.var 2) .nil)))) (.int 1))) (.cons (.set 7 (.call 15 (.cons (.var 0) (.cons (.var 5) (.cons (.var 1) (.cons (.var 6) .nil)))))) (.cons (.set 8 (.bin .Add (.bin .Add (.lrg (.cons (.var 3) (.cons (.ix (.var 7) (.int 0)) .nil))) (.lc (.var 9) (.nm 9) (.seq (.var 7)) (.so (.cmp .GtE (.var 9) (.var 3))) [9])) (.lst (.cons (.var 3) .nil)))) (.cons (.ret (.boo .And (.cons (.isc false (.var 4) none) (.cons (.bi .all (.lc (.cmp .Gt (.call 17 (.cons (.var 0) (.cons (.var 5) (.cons (.var 1) (.cons (.var 6) (.cons (.var 9) .nil)))))) (.int 0)) (.nm 9) (.seq (.var 8)) .no [9])) .nil)))) .nil)))))
def n_accepts_ray : List Str := ["one", "other", "uses", "far", "certificate", "state", "other_state", "points", "tried", "use"]
def d_accepts_ray : DefT := ⟨"accepts_ray", n_accepts_ray, 5, false, false, t_accepts_ray⟩
def t_accepts_never : Ss := (.cons (.ife (.boo .Or (.cons (.not (.call 7 (.cons (.var 0) .nil))) (.cons (.not (.call 7 (.cons (.var 1) .nil))) (.cons (.not (.call 0 (.cons (.var 3) .nil))) .nil)))) (.cons (.ret (.bl false)) .nil) .nil) (.cons (.set 5 (.call 21 (.cons (.var 0) (.cons (.var 1) (.cons (.var 3) (.cons (.var 4) .nil)))))) (.cons (.ife (.boo .Or (.cons (.isc false (.var 5) none) (.cons (.boo .And (.cons (.isc true (.var 2) none) (.cons (.not (.call 2 (.cons (.var 2) .nil))) .nil))) .nil))) (.cons (.ret (.bl false)) .nil) .nil) (.cons (.ret (.bi .all (.lc (.call 23 (.cons (.var 0) (.cons (.var 1) (.cons (.var 2) (.cons (.var 5) (.cons (.var 6) .nil)))))) (.nm 6) (.dic (.var 5)) .no [6]))) .nil))))
def n_accepts_never : List Str := ["one", "other", "most_use", "amount", "table", "known", "pair"]
def d_accepts_never : DefT := ⟨"accepts_never", n_accepts_never, 5, false, false, t_accepts_never⟩
def t_accepts_apart : Ss := (.cons (.ife (.boo .Or (.cons (.not (.call 7 (.cons (.var 0) .nil))) (.cons (.not (.call 7 (.cons (.var 1) .nil))) (.cons (.not (.call 3 (.cons (.var 2) .nil))) (.cons (.cmp .Eq (.var 2) (.tup .nil)) (.cons (.isc true (.var 3) none) .nil)))))) (.cons (.ret (.bl false)) .nil) .nil) (.cons (.asg (.tp (.cons (.nm 4) (.cons (.nm 5) .nil))) (.ix (.call 18 (.cons (.var 0) (.cons (.var 1) (.cons (.sl (.var 2) .no (.so (.neg (.int 1)))) .nil)))) (.int 1))) (.cons (.ret (.cmp .NotEq (.call 16 (.cons (.var 0) (.cons (.var 4) (.cons (.var 1) (.cons (.var 5) (.cons (.ix (.var 2) (.neg (.int 1))) .nil)))))) (.int 0))) .nil)))
def n_accepts_apart : List Str := ["one", "other", "uses", "certificate", "state", "other_state"]
def d_accepts_apart : DefT := ⟨"accepts_apart", n_accepts_apart, 4, false, false, t_accepts_apart⟩
def t_accepts_alike : Ss := (.cons (.ife (.boo .Or (.cons (.not (.call 7 (.cons (.var 0) .nil))) (.cons (.not (.call 7 (.cons (.var 1) .nil))) (.cons (.not (.isa (.var 2) .tuple)) .nil)))) (.cons (.ret (.bl false)) .nil) .nil) (.cons (.for_ (.nm 3) (.seq (.var 2)) (.cons (.ife (.boo .Or (.cons (.not (.isa (.var 3) .tuple)) (.cons (.cmp .NotEq (.bi .len (.var 3)) (.int 2)) (.cons (.not (.call 8 (.cons (.var 0) (.cons (.ix (.var 3) (.int 0)) .nil)))) (.cons (.not (.call 8 (.cons (.var 1) (.cons (.ix (.var 3) (.int 1)) .nil)))) .nil))))) (.cons (.ret (.bl false)) .nil) .nil) .nil)) (.cons (.ife (.boo .Or (.cons (.not (.call 20 (.cons (.var 2) .nil))) (.cons (.cmp .NotIn (.tup (.cons (.glo 8) (.cons (.glo 8) .nil))) (.var 2)) .nil))) (.cons (.ret (.bl false)) .nil) .nil) (.cons (.ret (.bi .all (.lc (.call 25 (.cons (.var 0) (.cons (.var 1) (.cons (.var 2) (.cons (.var 3) .nil))))) (.nm 3) (.seq (.var 2)) .no [3]))) .nil))))
def n_accepts_alike : List Str := ["one", "other", "table", "pair"]
def d_accepts_alike : DefT := ⟨"accepts_alike", n_accepts_alike, 3, false, false, t_accepts_alike⟩
def t_accepts_lost : Ss := (.cons (.ife (.boo .Or (.cons (.not (.call 7 (.cons (.var 0) .nil))) (.cons (.not (.call 4 (.cons (.var 1) .nil))) (.cons (.not (.call 0 (.cons (.var 2) .nil))) .nil)))) (.cons (.ret (.bl false)) .nil) .nil) (.cons (.ret (.boo .And (.cons (.isc false (.var 3) none) (.cons (.cmp .Eq (.ix (.call 19 (.cons (.var 0) (.cons (.var 1) .nil))) (.int 0)) (.var 2)) .nil)))) .nil))
def n_accepts_lost : List Str := ["form", "pairs", "amount", "certificate"]
def d_accepts_lost : DefT := ⟨"accepts_lost", n_accepts_lost, 4, false, false, t_accepts_lost⟩
def t_accepts_losing : Ss := (.cons (.ife (.boo .Or (.cons (.not (.call 7 (.cons (.var 0) .nil))) (.cons (.not (.call 4 (.cons (.var 1) .nil))) (.cons (.not (.call 4 (.cons (.var 2) .nil))) .nil)))) (.cons (.ret (.bl false)) .nil) .nil) (.cons (.asg (.tp (.cons (.tp (.cons (.nm 4) (.cons (.nm 5) .nil))) (.cons (.tp (.cons (.nm 6) (.cons (.nm 7) .nil))) .nil))) (.tup (.cons (.call 19 (.cons (.var 0) (.cons (.var 1) .nil))) (.cons (.call 19 (.cons (.var 0) (.cons (.bin .Add (.var 1) (.var 2)) .nil))) .nil)))) (.cons (.ret (.boo .And (.cons (.isc false (.var 3) none) (.cons (.cmp .NotEq (.var 2) (.tup .nil)) (.cons (.cmp .Eq (.var 7) (.var 5)) (.cons (.cmp .Gt (.var 6) (.var 4)) .nil)))))) .nil)))
def n_accepts_losing : List Str := ["form", "pairs", "loop", "certificate", "loss", "pair", "later", "end"]
def d_accepts_losing : DefT := ⟨"accepts_losing", n_accepts_losing, 4, false, false, t_accepts_losing⟩
def t_accepts_thrifty : Ss := (.cons (.ife (.boo .Or (.cons (.not (.call 7 (.cons (.var 0) .nil))) (.cons (.not (.call 0 (.cons (.var 2) .nil))) (.cons (.boo .And (.cons (.isc true (.var 1) none) (.cons (.not (.call 2 (.cons (.var 1) .nil))) .nil))) .nil)))) (.cons (.ret (.bl false)) .nil) .nil) (.cons (.set 4 (.call 21 (.cons (.var 0) (.cons (.var 0) (.cons (.var 2) (.cons (.var 3) .nil)))))) (.cons (.ret (.boo .And (.cons (.isc true (.var 4) none) (.cons (.bi .all (.lc (.call 24 (.cons (.var 0) (.cons (.var 1) (.cons (.var 4) (.cons (.var 5) .nil))))) (.nm 5) (.dic (.var 4)) .no [5])) .nil)))) .nil)))
def n_accepts_thrifty : List Str := ["form", "most_use", "amount", "table", "known", "pair"]
def d_accepts_thrifty : DefT := ⟨"accepts_thrifty", n_accepts_thrifty, 4, false, false, t_accepts_thrifty⟩
def t_row_sum : Ss := (.cons (.par [4, 5, 6] (.cons (.neg (.var 2)) (.cons .non (.cons (.glo 8) .nil)))) (.cons (.for_ (.tp (.cons (.nm 7) (.cons (.nm 8) .nil))) (.zip (.var 1) (.var 3)) (.cons (.ife (.cmp .NotEq (.var 8) (.var 5)) (.cons (.par [4, 6] (.cons (.bin .Add (.var 4) (.var 2)) (.cons (.glo 8) .nil))) .nil) .nil) (.cons (.aug 4 (.call 10 (.cons (.ix (.var 0) (.var 8)) (.cons (.var 6) (.cons (.var 7) .nil))))) (.cons (.par [5, 6] (.cons (.var 8) (.cons (.call 11 (.cons (.ix (.var 0) (.var 8)) (.cons (.var 6) (.cons (.var 7) .nil)))) .nil))) .nil)))) (.cons (.ret (.ite (.cmp .NotEq (.var 3) (.tup .nil)) (.var 4) (.int 0))) .nil)))
def n_row_sum : List Str := ["plans", "uses", "change", "row", "found", "before", "state", "use", "index"]
def d_row_sum : DefT := ⟨"row_sum", n_row_sum, 4, false, false, t_row_sum⟩
def t_are_bounds : Ss := (.cons (.for_ (.tp (.cons (.nm 4) (.cons (.nm 5) .nil))) (.enum (.var 0)) (.cons (.for_ (.nm 6) (.rng1 (.bi .len (.var 1))) (.cons (.setLc 7 (.lc (.var 12) (.tp (.cons (.nm 11) (.cons (.nm 12) .nil))) (.enum (.ix (.var 3) (.bin .Sub (.var 6) (.int 1)))) (.so (.cmp .NotEq (.var 11) (.var 4))) [11, 12])) (.cons (.ife (.boo .And (.cons (.cmp .Gt (.var 6) (.int 0)) (.cons (.cmp .Eq (.var 7) (.lst .nil)) .nil))) (.cons .brk .nil) .nil) (.cons (.par [8, 9] (.cons (.ite (.cmp .Eq (.var 6) (.int 0)) (.int 0) (.bin .Add (.var 2) (.bi .mnq (.var 7)))) (.cons (.glo 8) .nil))) (.cons (.for_ (.nm 10) (.rng2 (.var 6) (.bi .len (.var 1))) (.cons (.aug 8 (.call 10 (.cons (.var 5) (.cons (.var 9) (.cons (.ix (.var 1) (.var 10)) .nil))))) (.cons (.ife (.cmp .Gt (.ix (.ix (.var 3) (.var 10)) (.var 4)) (.var 8)) (.cons (.ret (.bl false)) .nil) .nil) (.cons (.set 9 (.call 11 (.cons (.var 5) (.cons (.var 9) (.cons (.ix (.var 1) (.var 10)) .nil))))) .nil)))) .nil))))) .nil)) (.cons (.ret (.bl true)) .nil))
def n_are_bounds : List Str := ["plans", "uses", "change", "table", "index", "plan", "begin", "others", "amount", "state", "period", "place", "number"]
def d_are_bounds : DefT := ⟨"are_bounds", n_are_bounds, 4, false, false, t_are_bounds⟩
def t_accepts_cheapest : Ss := (.cons (.ife (.boo .Or (.cons (.not (.isa (.var 0) .tuple)) (.cons (.not (.cmp2 .LtE .LtE (.int 1) (.bi .len (.var 0)) (.int 4))) (.cons (.not (.bi .all (.lc (.call 7 (.cons (.var 6) .nil)) (.nm 6) (.seq (.var 0)) .no [6]))) .nil)))) (.cons (.ret (.bl false)) .nil) .nil) (.cons (.ife (.boo .Or (.cons (.not (.call 3 (.cons (.var 1) .nil))) (.cons (.not (.call 2 (.cons (.var 2) .nil))) (.cons (.not (.call 3 (.cons (.var 3) .nil))) (.cons (.not (.isa (.var 4) .tuple)) .nil))))) (.cons (.ret (.bl false)) .nil) .nil) (.cons (.ife (.boo .Or (.cons (.not (.cmp2 .Eq .Eq (.bi .len (.var 1)) (.bi .len (.var 3)) (.bi .len (.var 4)))) (.cons (.not (.bi .all (.lc (.cmp .Lt (.var 7) (.bi .len (.var 0))) (.nm 7) (.seq (.var 3)) .no [7]))) .nil))) (.cons (.ret (.bl false)) .nil) .nil) (.cons (.for_ (.nm 5) (.seq (.var 4)) (.cons (.ife (.boo .Or (.cons (.not (.isa (.var 5) .tuple)) (.cons (.cmp .NotEq (.bi .len (.var 5)) (.bi .len (.var 0))) (.cons (.not (.bi .all (.lc (.call 0 (.cons (.var 8) .nil)) (.nm 8) (.seq (.var 5)) .no [8]))) .nil)))) (.cons (.ret (.bl false)) .nil) .nil) .nil)) (.cons (.ife (.not (.call 36 (.cons (.var 0) (.cons (.var 1) (.cons (.var 2) (.cons (.var 4) .nil)))))) (.cons (.ret (.bl false)) .nil) .nil) (.cons (.ret (.boo .Or (.cons (.cmp .Eq (.var 4) (.tup .nil)) (.cons (.cmp .LtE (.call 35 (.cons (.var 0) (.cons (.var 1) (.cons (.var 2) (.cons (.var 3) .nil))))) (.bi .mnq (.ix (.var 4) (.neg (.int 1))))) .nil)))) .nil))))))
def n_accepts_cheapest : List Str := ["plans", "uses", "change", "row", "table", "numbers", "plan", "index", "n"]
def d_accepts_cheapest : DefT := ⟨"accepts_cheapest", n_accepts_cheapest, 5, false, false, t_accepts_cheapest⟩
def t_law_pool : Ss := (.cons (.set 1 (.ite (.boo .Or (.cons (.cmp .Lt (.var 0) (.int 0)) (.cons (.cmp .GtE (.var 0) (.bin .Pow (.int 10) (.int 18))) .nil))) (.bi .abs (.var 0)) (.int 0))) (.cons (.ret (.lst (.cons (.bin .Mod (.bi .int (.var 0)) (.int 2147483249)) (.cons (.var 1) (.cons (.int 0) .nil))))) .nil))
def n_law_pool : List Str := ["_law_number", "_law_digits"]
def d_law_pool : DefT := ⟨"_law_pool", n_law_pool, 1, false, false, t_law_pool⟩
def t_law_draw : Ss := (.cons (.asg (.sb 0 2) (.bin .Add (.ixo 0 (.int 2)) (.int 1))) (.cons (.set 2 (.ixo 0 (.int 0))) (.cons (.set 3 (.bin .Add (.bin .Mod (.bi .int (.var 2)) (.int 48947)) (.int 31019))) (.cons (.asg (.sb 0 0) (.bin .Mod (.bi .int (.bin .Add (.bin .Add (.bin .Mult (.var 2) (.var 3)) (.bin .Mult (.int 79979) (.ixo 0 (.int 2)))) (.int 11))) (.int 2147483249))) (.cons (.ife (.cmp .Gt (.ixo 0 (.int 1)) (.int 0)) (.cons (.asg (.tp (.cons (.sb 0 1) (.cons (.nm 4) .nil))) (.bj .dm (.ixo 0 (.int 1)) (.var 1))) (.cons (.ret (.var 4)) .nil)) .nil) (.cons (.ret (.bin .Mod (.bi .int (.bin .FloorDiv (.ixo 0 (.int 0)) (.int 64))) (.var 1))) .nil))))))
def n_law_draw : List Str := ["_law_pool_here", "_law_sides", "_law_mixed", "_law_stir", "_law_digit"]
def d_law_draw : DefT := ⟨"_law_draw", n_law_draw, 2, true, false, t_law_draw⟩
def t_law_wide : Ss := (.cons (.set 2 (.int 0)) (.cons (.for_ (.nm 3) (.rng1 (.int 7)) (.cons (.set 2 (.bin .Add (.bin .Mult (.var 2) (.bin .Pow (.int 10) (.int 6))) (.callP 41 0 (.cons (.bin .Pow (.int 10) (.int 6)) .nil)))) .nil)) (.cons (.ret (.bin .Mod (.bi .int (.var 2)) (.var 1))) .nil)))
def n_law_wide : List Str := ["_law_pool_here", "_law_sides", "_law_found", "_law_turn"]
def d_law_wide : DefT := ⟨"_law_wide", n_law_wide, 2, true, false, t_law_wide⟩
def t_law_coins : Ss := (.cons (.set 1 (.lst (.cons (.int 0) (.cons (.int 1) (.cons (.int 10) (.cons (.int 25) (.cons (.int 60) (.cons (.int 100) (.cons (.bin .Add (.int 7) (.callP 41 0 (.cons (.int 200) .nil))) (.cons (.bin .Sub (.bin .Pow (.int 10) (.int 9)) (.callP 41 0 (.cons (.int 300) .nil))) .nil)))))))))) (.cons (.ret (.ix (.bin .Add (.var 1) (.lst (.cons (.callP 42 0 (.cons (.bin .Add (.bin .Pow (.int 10) (.int 9)) (.int 1)) .nil)) .nil))) (.callP 41 0 (.cons (.int 9) .nil)))) .nil))
def n_law_coins : List Str := ["_law_pool_here", "_law_some"]
def d_law_coins : DefT := ⟨"_law_coins", n_law_coins, 1, true, false, t_law_coins⟩
def t_law_price : Ss := (.cons (.ret (.ix (.lst (.cons (.int 0) (.cons (.int 1) (.cons (.int 1) (.cons (.int 2) (.cons (.int 5) (.cons (.int 10) (.cons (.int 25) (.cons (.callP 43 0 .nil) .nil))))))))) (.callP 41 0 (.cons (.int 8) .nil)))) .nil)
def n_law_price : List Str := ["_law_pool_here"]
def d_law_price : DefT := ⟨"_law_price", n_law_price, 1, true, false, t_law_price⟩
def t_law_form : Ss := (.cons (.set 2 (.bi .tuple (.lc (.callP 43 0 .nil) (.nm 4) (.rng1 (.bin .Add (.int 1) (.callP 41 0 (.cons (.int 2) .nil)))) .no [4]))) (.cons (.set 3 (.tup (.cons (.tup (.cons (.int 0) (.cons (.callP 44 0 .nil) .nil))) .nil))) (.cons (.for_ (.nm 4) (.rng1 (.callP 41 0 (.cons (.ix (.lst (.cons (.int 3) (.cons (.int 3) (.cons (.int 4) .nil)))) (.var 1)) .nil))) (.cons (.set 5 (.bin .Add (.bin .Add (.ix (.ix (.var 3) (.neg (.int 1))) (.int 0)) (.int 1)) (.callP 41 0 (.cons (.ix (.lst (.cons (.int 2) (.cons (.int 4) (.cons (.int 5) .nil)))) (.var 1)) .nil)))) (.cons (.ife (.cmp .Lt (.var 5) (.int 13)) (.cons (.set 6 (.lst (.cons (.ix (.ix (.var 3) (.neg (.int 1))) (.int 1)) (.cons (.callP 44 0 .nil) (.cons (.callP 44 0 .nil) .nil))))) (.cons (.set 3 (.bin .Add (.var 3) (.tup (.cons (.tup (.cons (.var 5) (.cons (.ix (.var 6) (.callP 41 0 (.cons (.int 3) .nil))) .nil))) .nil)))) .nil)) .nil) .nil))) (.cons (.set 7 (.ix (.lst (.cons (.int 0) (.cons (.int 0) (.cons (.bi .mnq (.var 2)) (.cons (.callP 43 0 .nil) .nil))))) (.callP 41 0 (.cons (.int 4) .nil)))) (.cons (.set 8 (.bj .mn (.bin .Pow (.int 10) (.int 9)) (.bj .mx (.var 7) (.bin .Add (.ix (.var 2) (.int 0)) (.callP 41 0 (.cons (.int 200) .nil)))))) (.cons (.set 9 (.lst (.cons .non (.cons .non (.cons (.var 7) (.cons (.var 8) (.cons (.bj .mx (.var 7) (.callP 43 0 .nil)) .nil))))))) (.cons (.set 10 (.tup (.cons (.bin .Add (.int 1) (.callP 41 0 (.cons (.ix (.lst (.cons (.int 3) (.cons (.int 8) (.cons (.int 16) .nil)))) (.var 1)) .nil))) (.cons (.bin .Add (.int 1) (.callP 41 0 (.cons (.int 2) .nil))) (.cons (.callP 43 0 .nil) .nil))))) (.cons (.par [11, 12] (.cons (.callP 41 0 (.cons (.ix (.lst (.cons (.int 3) (.cons (.int 5) (.cons (.int 13) .nil)))) (.var 1)) .nil)) (.cons (.callP 41 0 (.cons (.ix (.lst (.cons (.int 2) (.cons (.int 3) (.cons (.int 4) .nil)))) (.var 1)) .nil)) .nil))) (.cons (.ret (.tup (.cons (.var 2) (.cons (.var 3) (.cons (.var 11) (.cons (.var 12) (.cons (.var 7) (.cons (.ix (.var 9) (.callP 41 0 (.cons (.int 5) .nil))) (.cons (.ix (.lst (.cons .non (.cons (.var 10) .nil))) (.callP 41 0 (.cons (.int 2) .nil))) .nil))))))))) .nil)))))))))
def n_law_form : List Str := ["_law_pool_here", "_law_size", "_law_wages", "_law_steps_here", "_law_k", "_law_first_here", "_law_prices", "_law_low", "_law_near", "_law_high", "_law_busy", "_law_free", "_law_kept"]
def d_law_form : DefT := ⟨"_law_form", n_law_form, 2, true, false, t_law_form⟩
def t_law_start : Ss := (.cons (.ret (.tup (.cons (.int 0) (.cons (.int 0) (.cons (.int 0) .nil))))) .nil)
def n_law_start : List Str := []
def d_law_start : DefT := ⟨"_law_start", n_law_start, 0, false, false, t_law_start⟩
def t_law_use : Ss := (.cons (.set 1 (.lst (.cons (.bin .Add (.bin .Pow (.int 10) (.int 9)) (.callP 41 0 (.cons (.int 40) .nil))) (.cons (.callP 42 0 (.cons (.bin .Pow (.int 10) (.int 20)) .nil)) (.cons (.callP 42 0 (.cons (.bin .Pow (.int 10) (.int 28)) .nil)) .nil))))) (.cons (.ret (.ix (.lst (.cons (.callP 41 0 (.cons (.int 4) .nil)) (.cons (.callP 41 0 (.cons (.int 8) .nil)) (.cons (.callP 41 0 (.cons (.int 30) .nil)) (.cons (.ix (.var 1) (.callP 41 0 (.cons (.int 3) .nil))) .nil))))) (.callP 41 0 (.cons (.int 4) .nil)))) .nil))
def n_law_use : List Str := ["_law_pool_here", "_law_far"]
def d_law_use : DefT := ⟨"_law_use", n_law_use, 1, true, false, t_law_use⟩
def t_law_history : Ss := (.cons (.ret (.bi .tuple (.lc (.callP 47 0 .nil) (.nm 2) (.rng1 (.callP 41 0 (.cons (.bin .Add (.var 1) (.int 1)) .nil))) .no [2]))) .nil)
def n_law_history : List Str := ["_law_pool_here", "_law_longest", "_law_k"]
def d_law_history : DefT := ⟨"_law_history", n_law_history, 2, true, false, t_law_history⟩
def t_law_bill : Ss := (.cons (.set 3 (.bj .mx (.int 0) (.bin .Sub (.bin .Sub (.var 2) (.ix (.var 0) (.int 2))) (.ix (.var 1) (.int 0))))) (.cons (.set 4 (.ix (.ix (.var 0) (.int 0)) (.ix (.var 1) (.int 2)))) (.cons (.for_ (.tp (.cons (.nm 5) (.cons (.nm 6) .nil))) (.enum (.ix (.var 0) (.int 1))) (.cons (.set 7 (.ite (.cmp .Lt (.bin .Add (.var 5) (.int 1)) (.bi .len (.ix (.var 0) (.int 1)))) (.ix (.ix (.ix (.var 0) (.int 1)) (.bin .Add (.var 5) (.int 1))) (.int 0)) (.var 3))) (.cons (.set 4 (.bin .Add (.var 4) (.bin .Mult (.ix (.var 6) (.int 1)) (.bj .mx (.int 0) (.bin .Sub (.bj .mn (.var 7) (.var 3)) (.ix (.var 6) (.int 0))))))) .nil))) (.cons (.set 4 (.bj .mx (.var 4) (.ix (.var 0) (.int 4)))) (.cons (.ife (.boo .And (.cons (.isc true (.ix (.var 0) (.int 5)) none) (.cons (.cmp .Gt (.var 4) (.ix (.var 0) (.int 5))) .nil))) (.cons (.set 4 (.ix (.var 0) (.int 5))) .nil) .nil) (.cons (.ife (.boo .And (.cons (.isc true (.ix (.var 0) (.int 6)) none) (.cons (.cmp .Eq (.ix (.var 1) (.int 1)) (.ix (.ix (.var 0) (.int 6)) (.int 1))) .nil))) (.cons (.set 4 (.bj .mx (.int 0) (.bin .Sub (.var 4) (.ix (.ix (.var 0) (.int 6)) (.int 2))))) .nil) .nil) (.cons (.ret (.var 4)) .nil)))))))
def n_law_bill : List Str := ["_law_form_here", "_law_stand", "_law_use_here", "_law_beyond", "_law_found", "_law_k", "_law_step", "_law_end"]
def d_law_bill : DefT := ⟨"_law_bill", n_law_bill, 3, false, false, t_law_bill⟩
def t_law_next : Ss := (.cons (.set 3 (.bin .Sub (.bin .Add (.ix (.var 0) (.int 2)) (.ix (.var 1) (.int 0))) (.var 2))) (.cons (.set 4 (.int 0)) (.cons (.ife (.boo .And (.cons (.isc true (.ix (.var 0) (.int 6)) none) (.cons (.cmp .GtE (.var 2) (.ix (.ix (.var 0) (.int 6)) (.int 0))) .nil))) (.cons (.set 4 (.bj .mn (.ix (.ix (.var 0) (.int 6)) (.int 1)) (.bin .Add (.ix (.var 1) (.int 1)) (.int 1)))) .nil) .nil) (.cons (.ret (.tup (.cons (.ite (.cmp .Lt (.var 3) (.int 1)) (.int 0) (.bj .mn (.ix (.var 0) (.int 3)) (.var 3))) (.cons (.var 4) (.cons (.bin .Mod (.bi .int (.bin .Add (.ix (.var 1) (.int 2)) (.int 1))) (.bi .len (.ix (.var 0) (.int 0)))) .nil))))) .nil))))
def n_law_next : List Str := ["_law_form_here", "_law_stand", "_law_use_here", "_law_left", "_law_busy"]
def d_law_next : DefT := ⟨"_law_next", n_law_next, 3, false, false, t_law_next⟩
def t_law_walk : Ss := (.cons (.set 3 (.int 0)) (.cons (.for_ (.nm 4) (.seq (.var 1)) (.cons (.set 3 (.bin .Add (.var 3) (.call 49 (.cons (.var 0) (.cons (.var 2) (.cons (.var 4) .nil)))))) (.cons (.set 2 (.call 50 (.cons (.var 0) (.cons (.var 2) (.cons (.var 4) .nil))))) .nil))) (.cons (.ret (.tup (.cons (.var 3) (.cons (.var 2) .nil)))) .nil)))
def n_law_walk : List Str := ["_law_form_here", "_law_hist", "_law_stand", "_law_found", "_law_use_here"]
def d_law_walk : DefT := ⟨"_law_walk", n_law_walk, 3, false, false, t_law_walk⟩
def t_law_begin : Ss := (.cons (.set 1 (.bin .Add (.bin .Add (.ix (.var 0) (.int 2)) (.ix (.var 0) (.int 3))) (.ix (.ix (.ix (.var 0) (.int 1)) (.neg (.int 1))) (.int 0)))) (.cons (.ret (.ite (.isc false (.ix (.var 0) (.int 6)) none) (.var 1) (.bj .mx (.var 1) (.ix (.ix (.var 0) (.int 6)) (.int 0))))) .nil))
def n_law_begin : List Str := ["_law_form_here", "_law_found"]
def d_law_begin : DefT := ⟨"_law_begin", n_law_begin, 1, false, false, t_law_begin⟩
def t_law_first : Ss := (.cons (.set 4 (.bin .Add (.var 2) (.bin .Mult (.int 4) (.bin .Pow (.int 10) (.int 9))))) (.cons (.whl 64 (.cmp .Gt (.bin .Sub (.var 4) (.var 2)) (.int 1)) (.cons (.set 5 (.bin .FloorDiv (.bin .Add (.var 2) (.var 4)) (.int 2))) (.cons (.ife (.cmp .GtE (.call 49 (.cons (.var 0) (.cons (.var 1) (.cons (.var 5) .nil)))) (.var 3)) (.cons (.set 4 (.var 5)) .nil) (.cons (.set 2 (.var 5)) .nil)) .nil))) (.cons (.ret (.var 4)) .nil)))
def n_law_first : List Str := ["_law_form_here", "_law_stand", "_law_low", "_law_coins_here", "_law_high", "_law_half"]
def d_law_first : DefT := ⟨"_law_first", n_law_first, 4, false, false, t_law_first⟩
def t_law_edges : Ss := (.cons (.set 2 (.call 52 (.cons (.var 0) .nil))) (.cons (.par [3, 4] (.cons (.call 49 (.cons (.var 0) (.cons (.var 1) (.cons (.var 2) .nil)))) (.cons (.call 49 (.cons (.var 0) (.cons (.var 1) (.cons (.bin .Add (.var 2) (.bin .Mult (.int 4) (.bin .Pow (.int 10) (.int 9)))) .nil)))) .nil))) (.cons (.ife (.cmp .Eq (.var 3) (.var 4)) (.cons (.ret (.lst (.cons (.var 2) .nil))) .nil) .nil) (.cons (.set 5 (.call 53 (.cons (.var 0) (.cons (.var 1) (.cons (.var 2) (.cons (.bin .Add (.var 3) (.int 1)) .nil)))))) (.cons (.set 6 (.lst (.cons (.var 2) (.cons (.bin .Sub (.var 5) (.int 1)) (.cons (.var 5) .nil))))) (.cons (.ife (.isc true (.ix (.var 0) (.int 5)) none) (.cons (.set 7 (.call 53 (.cons (.var 0) (.cons (.var 1) (.cons (.var 2) (.cons (.var 4) .nil)))))) (.cons (.set 6 (.bin .Add (.var 6) (.lst (.cons (.bin .Sub (.var 7) (.int 1)) (.cons (.var 7) .nil))))) .nil)) .nil) (.cons (.ret (.var 6)) .nil)))))))
def n_law_edges : List Str := ["_law_form_here", "_law_stand", "_law_begin_here", "_law_low", "_law_high", "_law_rise", "_law_found", "_law_top"]
def d_law_edges : DefT := ⟨"_law_edges", n_law_edges, 2, false, false, t_law_edges⟩
def t_law_tries : Ss := (.cons (.set 4 (.bj .mx (.call 52 (.cons (.var 0) .nil)) (.call 52 (.cons (.var 2) .nil)))) (.cons (.set 5 (.bin .Add (.lst (.cons (.var 4) .nil)) (.lc (.var 6) (.nm 6) (.seq (.bin .Add (.call 54 (.cons (.var 0) (.cons (.var 1) .nil))) (.call 54 (.cons (.var 2) (.cons (.var 3) .nil))))) (.so (.cmp .Gt (.var 6) (.var 4))) [6]))) (.cons (.ret (.bin .Add (.bin .Add (.lrg (.cons (.var 4) .nil)) (.sset (.var 5))) (.lst (.cons (.bin .Add (.bi .mxq (.var 5)) (.int 1)) .nil)))) .nil)))
def n_law_tries : List Str := ["_law_form_here", "_law_stand", "_law_rival", "_law_side", "_law_far", "_law_found", "_law_use_here"]
def d_law_tries : DefT := ⟨"_law_tries", n_law_tries, 4, false, false, t_law_tries⟩
def t_law_allowed : Ss := (.cons (.ife (.isc false (.var 1) none) (.cons (.ret (.var 0)) .nil) .nil) (.cons (.ret (.sset (.bin .Add (.lc (.var 2) (.nm 2) (.seq (.var 0)) (.so (.cmp .Lt (.var 2) (.var 1))) [2]) (.lst (.cons (.var 1) .nil))))) .nil))
def n_law_allowed : List Str := ["_law_tries_here", "_law_bound", "_law_use_here"]
def d_law_allowed : DefT := ⟨"_law_allowed", n_law_allowed, 2, false, false, t_law_allowed⟩
def t_law_gap : Ss := (.cons (.ret (.bin .Sub (.call 49 (.cons (.var 0) (.cons (.var 1) (.cons (.var 4) .nil)))) (.call 49 (.cons (.var 2) (.cons (.var 3) (.cons (.var 4) .nil)))))) .nil)
def n_law_gap : List Str := ["_law_form_here", "_law_stand", "_law_rival", "_law_side", "_law_use_here"]
def d_law_gap : DefT := ⟨"_law_gap", n_law_gap, 5, false, false, t_law_gap⟩
def t_law_steps : Ss := (.cons (.asg (.tp (.cons (.nm 4) (.cons (.nm 5) .nil))) (.var 2)) (.cons (.set 6 (.call 55 (.cons (.var 0) (.cons (.var 4) (.cons (.var 1) (.cons (.var 5) .nil)))))) (.cons (.set 7 (.call 57 (.cons (.var 0) (.cons (.var 4) (.cons (.var 1) (.cons (.var 5) (.cons (.ix (.var 6) (.neg (.int 1))) .nil))))))) (.cons (.ife (.boo .And (.cons (.isc false (.var 3) none) (.cons (.cmp .Gt (.var 7) (.call 57 (.cons (.var 0) (.cons (.var 4) (.cons (.var 1) (.cons (.var 5) (.cons (.ix (.var 6) (.neg (.int 2))) .nil))))))) .nil))) (.cons (.ret .non) .nil) .nil) (.cons (.own 8 .dic0) (.cons (.for_ (.nm 9) (.seq (.call 56 (.cons (.var 6) (.cons (.var 3) .nil)))) (.cons (.set 10 (.tup (.cons (.call 50 (.cons (.var 0) (.cons (.var 4) (.cons (.var 9) .nil)))) (.cons (.call 50 (.cons (.var 1) (.cons (.var 5) (.cons (.var 9) .nil)))) .nil)))) (.cons (.set 11 (.call 57 (.cons (.var 0) (.cons (.var 4) (.cons (.var 1) (.cons (.var 5) (.cons (.var 9) .nil))))))) (.cons (.put 8 (.var 10) (.bj .mx (.var 11) (.geto 8 (.var 10) (.var 11)))) .nil)))) (.cons (.reto 8) .nil)))))))
def n_law_steps : List Str := ["_law_form_here", "_law_rival", "_law_pair", "_law_bound", "_law_stand", "_law_side", "_law_tries_here", "_law_last", "_law_found", "_law_use_here", "_law_goal", "_law_weight"]
def d_law_steps : DefT := ⟨"_law_steps", n_law_steps, 4, false, false, t_law_steps⟩
def t_law_loss_steps : Ss := (.cons (.asg (.tp (.cons (.nm 3) (.cons (.nm 4) .nil))) (.var 1)) (.cons (.set 5 (.call 56 (.cons (.call 55 (.cons (.var 0) (.cons (.var 3) (.cons (.var 0) (.cons (.var 4) .nil))))) (.cons (.var 2) .nil)))) (.cons (.setLc 6 (.lc (.tup (.cons (.call 49 (.cons (.var 0) (.cons (.var 4) (.cons (.var 14) .nil)))) (.cons (.call 50 (.cons (.var 0) (.cons (.var 4) (.cons (.var 14) .nil)))) .nil))) (.nm 14) (.seq (.var 5)) .no [14])) (.cons (.own 7 .dic0) (.cons (.for_ (.tp (.cons (.nm 8) (.cons (.nm 9) .nil))) (.enum (.var 5)) (.cons (.par [10, 11] (.cons (.call 49 (.cons (.var 0) (.cons (.var 3) (.cons (.var 9) .nil)))) (.cons (.call 50 (.cons (.var 0) (.cons (.var 3) (.cons (.var 9) .nil)))) .nil))) (.cons (.for_ (.tp (.cons (.nm 12) (.cons (.nm 13) .nil))) (.seq (.sl (.var 6) (.so (.var 8)) .no)) (.cons (.put 7 (.tup (.cons (.var 11) (.cons (.var 13) .nil))) (.bj .mx (.bin .Sub (.var 10) (.var 12)) (.geto 7 (.tup (.cons (.var 11) (.cons (.var 13) .nil))) (.bin .Sub (.var 10) (.var 12))))) .nil)) .nil))) (.cons (.reto 7) .nil))))))
def n_law_loss_steps : List Str := ["_law_form_here", "_law_pair", "_law_bound", "_law_stand", "_law_side", "_law_tries_here", "_law_larger", "_law_found", "_law_k", "_law_less", "_law_coins_here", "_law_spot", "_law_spent", "_law_goal", "_law_use_here"]
def d_law_loss_steps : DefT := ⟨"_law_loss_steps", n_law_loss_steps, 3, false, false, t_law_loss_steps⟩
def t_law_settled : Ss := (.cons (.set 1 (.tup (.cons (.call 46 .nil) (.cons (.call 46 .nil) .nil)))) (.cons (.own 2 (.dic1 (.var 1) (.int 0))) (.cons (.own 3 .dic0) (.cons (.for_ (.nm 4) (.rng1 (.int 3000)) (.cons (.set 5 (.bl false)) (.cons (.for_ (.nm 6) (.seq (.bio .list 2)) (.cons (.ife (.ino true (.var 6) 3) (.cons (.put 3 (.var 6) (.callF 0 (.var 6))) .nil) .nil) (.cons (.ife (.isc false (.ixo 3 (.var 6)) none) (.cons (.ret .non) .nil) .nil) (.cons (.for_ (.nm 7) (.dic (.ixo 3 (.var 6))) (.cons (.set 8 (.bin .Add (.ixo 2 (.var 6)) (.ix (.ixo 3 (.var 6)) (.var 7)))) (.cons (.ife (.boo .Or (.cons (.ino true (.var 7) 2) (.cons (.cmp .Lt (.ixo 2 (.var 7)) (.var 8)) .nil))) (.cons (.put 2 (.var 7) (.var 8)) (.cons (.set 5 (.bl true)) .nil)) .nil) .nil))) .nil)))) (.cons (.ife (.not (.var 5)) (.cons (.reto 2) .nil) .nil) (.cons (.ife (.cmp .Gt (.var 4) (.bin .Add (.bio .len 2) (.int 1))) (.cons (.ret .non) .nil) .nil) .nil))))) (.cons (.ret .non) .nil)))))
def n_law_settled : List Str := ["_law_ways_of", "_law_begin_here", "_law_found", "_law_known", "_law_turn", "_law_moved", "_law_pair", "_law_goal", "_law_weight"]
def d_law_settled : DefT := ⟨"_law_settled", n_law_settled, 1, false, true, t_law_settled⟩
def t_law_rows : Ss := (.cons (.ret (.bi .tuple (.bi .sorted (.lc (.tup (.cons (.ix (.var 1) (.int 0)) (.cons (.ix (.var 1) (.int 1)) (.cons (.ix (.var 0) (.var 1)) .nil)))) (.nm 1) (.dic (.var 0)) .no [1])))) .nil)
def n_law_rows : List Str := ["_law_numbers", "_law_pair"]
def d_law_rows : DefT := ⟨"_law_rows", n_law_rows, 1, false, false, t_law_rows⟩
def t_law_same_rows : Ss := (.cons (.set 1 (.ite (.isc false (.ix (.var 0) (.int 6)) none) (.int 0) (.ix (.ix (.var 0) (.int 6)) (.int 1)))) (.cons (.set 2 (.lst .nil)) (.cons (.for_ (.nm 3) (.rng1 (.bin .Add (.ix (.var 0) (.int 3)) (.int 1))) (.cons (.for_ (.nm 4) (.rng1 (.bin .Add (.var 1) (.int 1))) (.cons (.set 2 (.bin .Add (.var 2) (.lc (.tup (.cons (.var 3) (.cons (.var 4) (.cons (.var 6) .nil)))) (.nm 6) (.rng1 (.bi .len (.ix (.var 0) (.int 0)))) .no [6]))) .nil)) .nil)) (.cons (.ret (.bi .tuple (.lc (.tup (.cons (.var 5) (.cons (.var 5) .nil))) (.nm 5) (.seq (.var 2)) .no [5]))) .nil))))
def n_law_same_rows : List Str := ["_law_form_here", "_law_rows_here", "_law_found", "_law_k", "_law_busy", "_law_stand", "_law_turn"]
def d_law_same_rows : DefT := ⟨"_law_same_rows", n_law_same_rows, 1, false, false, t_law_same_rows⟩
def t_law_claims : Ss := (.cons (.par [1, 2] (.cons (.call 46 .nil) (.cons (.tup (.cons (.tup (.cons (.int 100) .nil)) (.cons (.tup (.cons (.tup (.cons (.int 0) (.cons (.int 10) .nil))) .nil)) (.cons (.int 0) (.cons (.int 0) (.cons (.int 0) (.cons (.int 130) (.cons (.tup (.cons (.int 5) (.cons (.int 1) (.cons (.int 30) .nil)))) .nil)))))))) .nil))) (.cons (.asg (.tp (.cons (.nm 3) (.cons (.nm 4) .nil))) (.tup (.cons (.callP 45 0 (.cons (.int 0) .nil)) (.cons (.callP 45 0 (.cons (.int 0) .nil)) .nil)))) (.cons (.asg (.tp (.cons (.nm 5) (.cons (.nm 6) .nil))) (.tup (.cons (.tup (.cons (.tup (.cons (.int 0) .nil)) (.cons (.tup (.cons (.tup (.cons (.int 0) (.cons (.int 0) .nil))) .nil)) (.cons (.int 0) (.cons (.int 0) (.cons (.int 0) (.cons .non (.cons .non .nil)))))))) (.cons (.callP 48 0 (.cons (.int 4) .nil)) .nil)))) (.cons (.set 7 (.bin .Sub (.ix (.call 51 (.cons (.var 3) (.cons (.var 6) (.cons (.var 1) .nil)))) (.int 0)) (.ix (.call 51 (.cons (.var 4) (.cons (.var 6) (.cons (.var 1) .nil)))) (.int 0)))) (.cons (.own 8 (.lst (.cons (.tup (.cons (.tup (.cons (.str "ahead") (.cons (.var 3) (.cons (.var 4) (.cons (.var 6) (.cons (.var 7) .nil)))))) (.cons .non .nil))) .nil))) (.cons (.set 9 (.tup (.cons (.tup (.cons (.int 3) (.cons (.int 3) .nil))) (.cons (.tup (.cons (.tup (.cons (.int 0) (.cons (.int 1) .nil))) (.cons (.tup (.cons (.int 2) (.cons (.int 1) .nil))) .nil))) (.cons (.int 1) (.cons (.int 1) (.cons (.int 0) (.cons .non (.cons (.tup (.cons (.int 2) (.cons (.int 1) (.cons (.int 1) .nil)))) .nil))))))))) (.cons (.app 8 (.tup (.cons (.tup (.cons (.str "loop") (.cons (.var 9) (.cons (.var 5) (.cons (.bin .Add (.var 6) (.tup (.cons (.int 0) (.cons (.int 2) .nil)))) (.cons (.tup (.cons (.int 1) (.cons (.int 2) .nil))) .nil)))))) (.cons .non .nil)))) (.cons (.app 8 (.tup (.cons (.tup (.cons (.str "ray") (.cons (.var 9) (.cons (.var 5) (.cons (.var 6) (.cons (.bin .Add (.int 4) (.callP 47 0 .nil)) .nil)))))) (.cons .non .nil)))) (.cons (.set 10 (.ix (.lst (.cons .non (.cons (.callP 41 0 (.cons (.int 9) .nil)) .nil))) (.callP 41 0 (.cons (.int 2) .nil)))) (.cons (.set 11 (.settle [5, 3, 10] (.call 58 (.cons (.var 1) (.cons (.var 2) (.cons (.var 0) (.cons (.var 3) .nil))))))) (.cons (.app 8 (.tup (.cons (.tup (.cons (.str "never") (.cons (.var 5) (.cons (.var 3) (.cons (.var 10) (.cons (.vmx (.var 11)) .nil)))))) (.cons (.call 61 (.cons (.var 11) .nil)) .nil)))) (.cons (.app 8 (.tup (.cons (.tup (.cons (.str "apart") (.cons (.var 9) (.cons (.var 5) (.cons (.bin .Add (.var 6) (.tup (.cons (.int 9) .nil))) .nil))))) (.cons .non .nil)))) (.cons (.app 8 (.tup (.cons (.tup (.cons (.str "alike") (.cons (.bin .Add (.sl (.var 9) .no (.so (.int 1))) (.sl (.var 9) (.so (.int 1)) .no)) (.cons (.var 9) .nil)))) (.cons (.call 62 (.cons (.var 9) .nil)) .nil)))) (.cons (.set 12 (.tup (.cons (.tup (.cons (.int 0) (.cons (.int 1) .nil))) (.cons (.tup (.cons (.int 2) (.cons (.bin .Pow (.int 10) (.int 12)) .nil))) .nil)))) (.cons (.set 13 (.bin .Sub (.ix (.call 51 (.cons (.var 3) (.cons (.lst (.cons (.int 0) (.cons (.int 2) .nil))) (.cons (.var 1) .nil)))) (.int 0)) (.ix (.call 51 (.cons (.var 3) (.cons (.lst (.cons (.int 1) (.cons (.bin .Pow (.int 10) (.int 12)) .nil))) (.cons (.var 1) .nil)))) (.int 0)))) (.cons (.app 8 (.tup (.cons (.tup (.cons (.str "lost") (.cons (.var 3) (.cons (.var 12) (.cons (.var 13) .nil))))) (.cons .non .nil)))) (.cons (.app 8 (.tup (.cons (.tup (.cons (.str "losing") (.cons (.var 2) (.cons (.tup (.cons (.tup (.cons (.int 4) (.cons (.int 5) .nil))) (.cons (.tup (.cons (.int 0) (.cons (.int 9) .nil))) .nil))) (.cons (.tup (.cons (.tup (.cons (.int 4) (.cons (.int 5) .nil))) .nil)) .nil))))) (.cons .non .nil)))) (.cons (.set 11 (.settle [10, 9] (.call 59 (.cons (.bin .Add (.sl (.var 2) .no (.so (.int 6))) (.tup (.cons .non .nil))) (.cons (.var 0) (.cons (.var 1) .nil)))))) (.cons (.app 8 (.tup (.cons (.tup (.cons (.str "thrifty") (.cons (.bin .Add (.sl (.var 9) .no (.so (.int 6))) (.tup (.cons .non .nil))) (.cons (.var 10) (.cons (.vmx (.var 11)) .nil))))) (.cons (.call 61 (.cons (.var 11) .nil)) .nil)))) (.cons (.set 14 (.lst (.cons (.ix (.call 51 (.cons (.var 9) (.cons (.tup (.cons (.int 2) (.cons (.int 7) .nil))) (.cons (.var 1) .nil)))) (.int 0)) (.cons (.ix (.call 51 (.cons (.var 5) (.cons (.tup (.cons (.int 2) (.cons (.int 7) .nil))) (.cons (.var 1) .nil)))) (.int 0)) .nil)))) (.cons (.set 15 (.tup (.cons (.tup (.cons (.call 49 (.cons (.var 9) (.cons (.var 1) (.cons (.int 2) .nil)))) (.cons (.int 0) .nil))) (.cons (.tup (.cons (.ix (.var 14) (.int 0)) (.cons (.ix (.var 14) (.int 1)) .nil))) .nil)))) (.cons (.app 8 (.tup (.cons (.tup (.cons (.str "cheapest") (.cons (.tup (.cons (.var 9) (.cons (.var 5) .nil))) (.cons (.tup (.cons (.int 2) (.cons (.int 7) .nil))) (.cons (.int 5) (.cons (.tup (.cons (.int 1) (.cons (.int 1) .nil))) .nil)))))) (.cons (.var 15) .nil)))) (.cons (.reto 8) .nil)))))))))))))))))))))))
def n_law_claims : List Str := ["_law_pool_here", "_law_start_here", "_law_busy", "_law_form_here", "_law_rival", "_law_free", "_law_hist", "_law_gained", "_law_found", "_law_dear", "_law_bound", "_law_numbers", "_law_pairs", "_law_loss", "_law_spent", "_law_table"]
def d_law_claims : DefT := ⟨"_law_claims", n_law_claims, 1, true, false, t_law_claims⟩
def t_law_places : Ss := (.cons (.set 1 (.lst (.cons (.tup .nil) .nil))) (.cons (.ife (.isa (.var 0) .tuple) (.cons (.for_ (.tp (.cons (.nm 2) (.cons (.nm 3) .nil))) (.enum (.var 0)) (.cons (.set 1 (.bin .Add (.var 1) (.lc (.bin .Add (.tup (.cons (.var 2) .nil)) (.var 4)) (.nm 4) (.seq (.call 64 (.cons (.var 3) .nil))) .no [4]))) .nil)) .nil) .nil) (.cons (.ret (.var 1)) .nil)))
def n_law_places : List Str := ["_law_thing", "_law_found", "_law_k", "_law_part", "_law_way"]
def d_law_places : DefT := ⟨"_law_places", n_law_places, 1, false, false, t_law_places⟩
def t_law_at : Ss := (.cons (.for_ (.nm 2) (.seq (.var 1)) (.cons (.set 0 (.ix (.var 0) (.var 2))) .nil)) (.cons (.ret (.var 0)) .nil))
def n_law_at : List Str := ["_law_thing", "_law_way", "_law_k"]
def d_law_at : DefT := ⟨"_law_at", n_law_at, 2, false, false, t_law_at⟩
def t_law_with : Ss := (.cons (.ife (.cmp .Eq (.var 1) (.tup .nil)) (.cons (.ret (.var 2)) .nil) .nil) (.cons (.ret (.bin .Add (.bin .Add (.sl (.var 0) .no (.so (.ix (.var 1) (.int 0)))) (.tup (.cons (.call 66 (.cons (.ix (.var 0) (.ix (.var 1) (.int 0))) (.cons (.sl (.var 1) (.so (.int 1)) .no) (.cons (.var 2) .nil)))) .nil))) (.sl (.var 0) (.so (.bin .Add (.ix (.var 1) (.int 0)) (.int 1))) .no))) .nil))
def n_law_with : List Str := ["_law_thing", "_law_way", "_law_part"]
def d_law_with : DefT := ⟨"_law_with", n_law_with, 3, false, false, t_law_with⟩
def t_law_of_another_kind : Ss := (.cons (.ife (.isa (.var 1) .tuple) (.cons (.ret (.ix (.lst (.cons (.bi .list (.var 1)) (.cons (.bin .Add (.var 1) (.tup (.cons .non .nil))) (.cons (.bi .str (.var 1)) (.cons .dic0 (.cons (.bin .Add (.var 1) (.tup (.cons (.str "x") .nil))) .nil)))))) (.callP 41 0 (.cons (.int 5) .nil)))) .nil) .nil) (.cons (.ife (.isa (.var 1) .int) (.cons (.set 2 (.lst (.cons (.bi .str (.var 1)) (.cons (.tup (.cons (.var 1) .nil)) (.cons (.lst (.cons (.var 1) .nil)) (.cons .dic0 (.cons (.str "x") .nil))))))) (.cons (.ife (.cmp .In (.var 1) (.lst (.cons (.int 0) (.cons (.int 1) .nil)))) (.cons (.set 2 (.bin .Add (.var 2) (.bin .Mult (.lst (.cons (.cmp .Eq (.var 1) (.int 1)) .nil)) (.int 5)))) .nil) .nil) (.cons (.ret (.ix (.var 2) (.callP 41 0 (.cons (.bi .len (.var 2)) .nil)))) .nil))) .nil) (.cons (.ife (.isc false (.var 1) none) (.cons (.ret (.ix (.lst (.cons (.bl false) (.cons (.str "") (.cons (.lst .nil) (.cons .dic0 (.cons (.str "None") (.cons (.tup (.cons (.str "x") .nil)) .nil))))))) (.callP 41 0 (.cons (.int 6) .nil)))) .nil) .nil) (.cons (.ret (.ix (.lst (.cons (.bin .Add (.var 1) (.str " ")) (.cons (.str "") (.cons .non (.cons (.tup (.cons (.var 1) .nil)) (.cons (.lst (.cons (.var 1) .nil)) (.cons (.upper (.var 1)) (.cons (.int 5) (.cons (.bl true) .nil))))))))) (.callP 41 0 (.cons (.int 8) .nil)))) .nil))))
def n_law_of_another_kind : List Str := ["_law_pool_here", "_law_part", "_law_some"]
def d_law_of_another_kind : DefT := ⟨"_law_of_another_kind", n_law_of_another_kind, 2, true, false, t_law_of_another_kind⟩
def t_law_right : Ss := (.cons (.for_ (.nm 1) (.seq (.callP 63 0 .nil)) (.cons (.par [2, 3] (.cons (.bi .repr (.var 1)) (.cons (.call 64 (.cons (.var 1) .nil)) .nil))) (.cons (.ife (.boo .Or (.cons (.isc true (.call 38 (.cons (.ix (.var 1) (.int 0)) (.cons (.ix (.var 1) (.int 1)) .nil))) (some true)) (.cons (.isc true (.callK 38 (.cons (.ix (.var 1) (.int 1)) (.cons (.ix (.var 1) (.int 0)) .nil))) (some true)) .nil))) (.cons (.ret (.bl false)) .nil) .nil) (.cons (.for_ (.nm 4) (.rng1 (.int 30)) (.cons (.set 5 (.ix (.var 3) (.bin .Add (.int 1) (.callP 41 0 (.cons (.bin .Sub (.bi .len (.var 3)) (.int 1)) .nil))))) (.cons (.set 6 (.call 66 (.cons (.var 1) (.cons (.var 5) (.cons (.callP 67 0 (.cons (.call 65 (.cons (.var 1) (.cons (.var 5) .nil))) .nil)) .nil))))) (.cons (.ife (.isc true (.call 38 (.cons (.ix (.var 6) (.int 0)) (.cons (.ix (.var 6) (.int 1)) .nil))) (some false)) (.cons (.ret (.bl false)) .nil) .nil) .nil)))) (.cons (.ife (.cmp .NotEq (.bi .repr (.var 1)) (.var 2)) (.cons (.ret (.bl false)) .nil) .nil) .nil))))) (.cons (.ret (.bl true)) .nil))
def n_law_right : List Str := ["_law_pool_here", "_law_told", "_law_kept", "_law_places_here", "_law_turn", "_law_way", "_law_bad"]
def d_law_right : DefT := ⟨"_law_right", n_law_right, 1, true, false, t_law_right⟩
def defTs : List (Option DefT) := [
  some d_is_integer,
  some d_is_within,
  some d_is_use,
  some d_are_uses,
  some d_are_pairs,
  some d_are_tiers,
  some d_is_streak,
  some d_is_form,
  some d_is_state,
  some d_uncut,
  some d_charge,
  some d_onward,
  some d_walked,
  some d_far_use,
  some d_bends,
  some d_turns,
  some d_gap,
  some d_growth,
  some d_lead_of,
  some d_loss_of,
  some d_is_ascending,
  some d_known_numbers,
  some d_near_and_far,
  some d_is_never_at,
  some d_is_thrifty_at,
  some d_is_alike_at,
  some d_accepts_ahead,
  some d_accepts_loop,
  some d_accepts_ray,
  some d_accepts_never,
  some d_accepts_apart,
  some d_accepts_alike,
  some d_accepts_lost,
  some d_accepts_losing,
  some d_accepts_thrifty,
  some d_row_sum,
  some d_are_bounds,
  some d_accepts_cheapest,
  none,
  none,
  some d_law_pool,
  some d_law_draw,
  some d_law_wide,
  some d_law_coins,
  some d_law_price,
  some d_law_form,
  some d_law_start,
  some d_law_use,
  some d_law_history,
  some d_law_bill,
  some d_law_next,
  some d_law_walk,
  some d_law_begin,
  some d_law_first,
  some d_law_edges,
  some d_law_tries,
  some d_law_allowed,
  some d_law_gap,
  some d_law_steps,
  some d_law_loss_steps,
  some d_law_settled,
  some d_law_rows,
  some d_law_same_rows,
  some d_law_claims,
  some d_law_places,
  some d_law_at,
  some d_law_with,
  some d_law_of_another_kind,
  some d_law_right]
abbrev f_is_integer : Nat := 0
abbrev f_is_within : Nat := 1
abbrev f_is_use : Nat := 2
abbrev f_are_uses : Nat := 3
abbrev f_are_pairs : Nat := 4
abbrev f_are_tiers : Nat := 5
abbrev f_is_streak : Nat := 6
abbrev f_is_form : Nat := 7
abbrev f_is_state : Nat := 8
abbrev f_uncut : Nat := 9
abbrev f_charge : Nat := 10
abbrev f_onward : Nat := 11
abbrev f_walked : Nat := 12
abbrev f_far_use : Nat := 13
abbrev f_bends : Nat := 14
abbrev f_turns : Nat := 15
abbrev f_gap : Nat := 16
abbrev f_growth : Nat := 17
abbrev f_lead_of : Nat := 18
abbrev f_loss_of : Nat := 19
abbrev f_is_ascending : Nat := 20
abbrev f_known_numbers : Nat := 21
abbrev f_near_and_far : Nat := 22
abbrev f_is_never_at : Nat := 23
abbrev f_is_thrifty_at : Nat := 24
abbrev f_is_alike_at : Nat := 25
abbrev f_accepts_ahead : Nat := 26
abbrev f_accepts_loop : Nat := 27
abbrev f_accepts_ray : Nat := 28
abbrev f_accepts_never : Nat := 29
abbrev f_accepts_apart : Nat := 30
abbrev f_accepts_alike : Nat := 31
abbrev f_accepts_lost : Nat := 32
abbrev f_accepts_losing : Nat := 33
abbrev f_accepts_thrifty : Nat := 34
abbrev f_row_sum : Nat := 35
abbrev f_are_bounds : Nat := 36
abbrev f_accepts_cheapest : Nat := 37
abbrev f_accepts : Nat := 38
abbrev f_law_cell : Nat := 39
abbrev f_law_pool : Nat := 40
abbrev f_law_draw : Nat := 41
abbrev f_law_wide : Nat := 42
abbrev f_law_coins : Nat := 43
abbrev f_law_price : Nat := 44
abbrev f_law_form : Nat := 45
abbrev f_law_start : Nat := 46
abbrev f_law_use : Nat := 47
abbrev f_law_history : Nat := 48
abbrev f_law_bill : Nat := 49
abbrev f_law_next : Nat := 50
abbrev f_law_walk : Nat := 51
abbrev f_law_begin : Nat := 52
abbrev f_law_first : Nat := 53
abbrev f_law_edges : Nat := 54
abbrev f_law_tries : Nat := 55
abbrev f_law_allowed : Nat := 56
abbrev f_law_gap : Nat := 57
abbrev f_law_steps : Nat := 58
abbrev f_law_loss_steps : Nat := 59
abbrev f_law_settled : Nat := 60
abbrev f_law_rows : Nat := 61
abbrev f_law_same_rows : Nat := 62
abbrev f_law_claims : Nat := 63
abbrev f_law_places : Nat := 64
abbrev f_law_at : Nat := 65
abbrev f_law_with : Nat := 66
abbrev f_law_of_another_kind : Nat := 67
abbrev f_law_right : Nat := 68
end K26
namespace K26
open PySem L2
def glD : Nat → PyData
  | 0 => .int 2 | 1 => .int 4 | 2 => .int 12 | 3 => .int 12 | 4 => .int 3 | 5 => .int 2 | 6 => .int 16 | 7 => .int 1000000000
  | _ => .tuple [.int 0, .int 0, .int 0]
/-- the kinds of claims: their names, their judges, how long they are -/
def judges : List (Str × Nat × Nat) := [("ahead", 26, 5), ("loop", 27, 5), ("ray", 28, 5), ("never", 29, 5), ("apart", 30, 4), ("alike", 31, 3), ("lost", 32, 4), ("losing", 33, 4), ("thrifty", 34, 4), ("cheapest", 37, 5)]
def acceptsD (fn : Nat → Option (List PyData → Option PyData)) (ds : List PyData) : Option PyData := match ds with
  | [.tuple (.str x :: parts), cert] => match judges.lookup x with
    | none => some (.bool false)
    | some (j, many) => if parts.length + 1 = many then (fn j).bind fun g => g (parts ++ [cert]) else some (.bool false)
  | [_, _] => some (.bool false)
  | _ => none
def dT (f : Nat) : Option DefT := (defTs[f]?).join

/-- the defs as they stand n calls deep -/
def cfN : Nat → Cf
  | 0 => ⟨glD, fun _ => none, fun _ => none, none, none⟩
  | n + 1 => ⟨glD, fun f => if f = 38 then some (acceptsD (cfN n).fn) else match dT f with
      | some D => if D.pool || D.fna then none else some fun ds => if ds.length = D.np then (D.run (cfN n) (ds.map fun d => some (.d d)) []).map (·.1) else none
      | none => none,
    fun f => match dT f with
      | some D => if D.pool then some fun ds S => if ds.length + 1 = D.np then D.run (cfN n) (some .pool :: ds.map fun d => some (.d d)) S else none else none
      | none => none,
    none, some fun g => (d_law_settled.run { cfN n with lf := some g } [some .fn] []).map (·.1)⟩
end K26
namespace K26
open PySem PySem.Spec PyProof.Rows L2 PySem.W

/-! ### looking at a program's text -/
def vName : Expr → Option (Str × Pos)
  | .Name x p => some (x, p)
  | _ => none
def vCon : Expr → Option Const
  | .Constant c _ _ => some c
  | _ => none
def vBin : Expr → Option (Expr × Operator × Expr)
  | .BinOp a o b _ => some (a, o, b)
  | _ => none
def vUn : Expr → Option (UnaryOp × Expr)
  | .UnaryOp o a _ => some (o, a)
  | _ => none
def vBoo : Expr → Option (BoolOp × List Expr)
  | .BoolOp o a _ => some (o, a)
  | _ => none
def vCmp : Expr → Option (Expr × List CmpOp × List Expr)
  | .Compare a o b _ => some (a, o, b)
  | _ => none
def vIf : Expr → Option (Expr × Expr × Expr)
  | .IfExp c a b _ => some (c, a, b)
  | _ => none
def vSub : Expr → Option (Expr × Expr)
  | .Subscript a b _ => some (a, b)
  | _ => none
def vSli : Expr → Option (Option Expr × Option Expr)
  | .Slice a b none _ => some (a, b)
  | _ => none
def vTup : Expr → Option (List Expr)
  | .Tuple es _ _ => some es
  | _ => none
def vLst : Expr → Option (List Expr)
  | .List es _ => some es
  | _ => none
def vDic : Expr → Option (List (Option Expr) × List Expr)
  | .Dict ks vs _ => some (ks, vs)
  | _ => none
def vLc : Expr → Option (Expr × List Comprehension × Scope × Pos)
  | .ListComp e gs sc p => some (e, gs, sc, p)
  | _ => none
def vCall : Expr → Option (Expr × List Expr × List Keyword × Pos)
  | .Call f as ks p => some (f, as, ks, p)
  | _ => none
def vAtt : Expr → Option (Expr × Str × Pos)
  | .Attribute o a p => some (o, a, p)
  | _ => none
section
variable {e : Expr}
theorem vName_of {x : Str} {p : Pos} (h : vName e = some (x, p)) : e = .Name x p := by cases e <;> simp [vName] at h; obtain ⟨rfl, rfl⟩ := h; rfl
theorem vCon_of {c : Const} (h : vCon e = some c) : ∃ j p, e = .Constant c j p := by cases e <;> simp [vCon] at h; subst h; exact ⟨_, _, rfl⟩
theorem vBin_of {a b : Expr} {o : Operator} (h : vBin e = some (a, o, b)) : ∃ p, e = .BinOp a o b p := by cases e <;> simp [vBin] at h; obtain ⟨rfl, rfl, rfl⟩ := h; exact ⟨_, rfl⟩
theorem vUn_of {a : Expr} {o : UnaryOp} (h : vUn e = some (o, a)) : ∃ p, e = .UnaryOp o a p := by cases e <;> simp [vUn] at h; obtain ⟨rfl, rfl⟩ := h; exact ⟨_, rfl⟩
theorem vBoo_of {a : List Expr} {o : BoolOp} (h : vBoo e = some (o, a)) : ∃ p, e = .BoolOp o a p := by cases e <;> simp [vBoo] at h; obtain ⟨rfl, rfl⟩ := h; exact ⟨_, rfl⟩
theorem vCmp_of {a : Expr} {o : List CmpOp} {b : List Expr} (h : vCmp e = some (a, o, b)) : ∃ p, e = .Compare a o b p := by cases e <;> simp [vCmp] at h; obtain ⟨rfl, rfl, rfl⟩ := h; exact ⟨_, rfl⟩
theorem vIf_of {c a b : Expr} (h : vIf e = some (c, a, b)) : ∃ p, e = .IfExp c a b p := by cases e <;> simp [vIf] at h; obtain ⟨rfl, rfl, rfl⟩ := h; exact ⟨_, rfl⟩
theorem vSub_of {a b : Expr} (h : vSub e = some (a, b)) : ∃ p, e = .Subscript a b p := by cases e <;> simp [vSub] at h; obtain ⟨rfl, rfl⟩ := h; exact ⟨_, rfl⟩
theorem vSli_of {a b : Option Expr} (h : vSli e = some (a, b)) : ∃ p, e = .Slice a b none p := by
  cases e with
  | Slice x y z p => cases z <;> simp [vSli] at h; obtain ⟨rfl, rfl⟩ := h; exact ⟨_, rfl⟩
  | _ => simp [vSli] at h
theorem vTup_of {es : List Expr} (h : vTup e = some es) : ∃ k p, e = .Tuple es k p := by cases e <;> simp [vTup] at h; subst h; exact ⟨_, _, rfl⟩
theorem vLst_of {es : List Expr} (h : vLst e = some es) : ∃ p, e = .List es p := by cases e <;> simp [vLst] at h; subst h; exact ⟨_, rfl⟩
theorem vDic_of {ks : List (Option Expr)} {vs : List Expr} (h : vDic e = some (ks, vs)) : ∃ p, e = .Dict ks vs p := by cases e <;> simp [vDic] at h; obtain ⟨rfl, rfl⟩ := h; exact ⟨_, rfl⟩
theorem vLc_of {a : Expr} {gs : List Comprehension} {sc : Scope} {p : Pos} (h : vLc e = some (a, gs, sc, p)) : e = .ListComp a gs sc p := by cases e <;> simp [vLc] at h; obtain ⟨rfl, rfl, rfl, rfl⟩ := h; rfl
theorem vCall_of {f : Expr} {as : List Expr} {ks : List Keyword} {p : Pos} (h : vCall e = some (f, as, ks, p)) : e = .Call f as ks p := by cases e <;> simp [vCall] at h; obtain ⟨rfl, rfl, rfl, rfl⟩ := h; rfl
theorem vAtt_of {o : Expr} {a : Str} {p : Pos} (h : vAtt e = some (o, a, p)) : e = .Attribute o a p := by cases e <;> simp [vAtt] at h; obtain ⟨rfl, rfl, rfl⟩ := h; rfl
end
def vLam : Expr → Option (Arguments × Expr × Scope × Pos)
  | .Lambda a b sc p => some (a, b, sc, p)
  | _ => none
theorem vLam_of {e : Expr} {a : Arguments} {b : Expr} {sc : Scope} {p : Pos} (h : vLam e = some (a, b, sc, p)) : e = .Lambda a b sc p := by cases e <;> simp [vLam] at h; obtain ⟨rfl, rfl, rfl, rfl⟩ := h; rfl
/-- one parameter, plain -/
def lamPar : Arguments → Option Str
  | ⟨[], [⟨y, none, _⟩], none, [], [], none, []⟩ => some y
  | _ => none
/-- neither starred nor a slice nor a comprehension that is folded -/
def plainE : Expr → Bool
  | .Starred .. => false
  | .Slice .. => false
  | .Set .. => false
  | .SetComp .. => false
  | .DictComp .. => false
  | _ => true

structure Ck where
  sc : Scope
  N : List Str
  top : Bool
  lam : Bool := false
def Ck.kind (k : Ck) (x : Str) : Option NameKind := k.sc.names.lookup x
def Ck.glb (k : Ck) (x : Str) : Bool := decide (k.kind x = some .globalImplicit) && !(x == ("__debug__" : Str)) && decide (x ≠ "__name__")
def Ck.vis (k : Ck) (i : Nat) (x : Str) : Bool := decide (k.N[i]? = some x) && (decide (k.kind x = some .local) || decide (k.kind x = some .cell) || decide (k.kind x = some .free)) && !(x == ("__debug__" : Str)) && !(x == ("__classdict__" : Str))
def Ck.loc (k : Ck) (i : Nat) (x : Str) : Bool := decide (k.N[i]? = some x) && (decide (k.kind x = some .local) || (k.top && decide (k.kind x = some .cell)))
def Ck.lcl (k : Ck) (i : Nat) (x : Str) : Bool := decide (k.N[i]? = some x) && decide (k.kind x = some .local)
def Ck.varE (k : Ck) (i : Nat) (e : Expr) : Bool := match vName e with
  | some (x, _) => k.vis i x
  | none => false
/-- the names of the defs, of the constants -/
def fnm (f : Nat) : Option Str := if f = 38 then some "accepts" else (dT f).map (·.nm)
def gnm : Nat → Option Str
  | 0 => some "MOST_FEES" | 1 => some "MOST_TIERS" | 2 => some "MOST_FROM" | 3 => some "MOST_INCLUDED" | 4 => some "MOST_CARRY" | 5 => some "MOST_ROW" | 6 => some "MOST_STREAK_USE" | 7 => some "MOST_MONEY"
  | 8 => some "START" | _ => none
def bnm : Bi → Str
  | .len => "len" | .abs => "abs" | .int => "int" | .mxq => "max" | .mnq => "min" | .list => "list" | .tuple => "tuple" | .all => "all" | .sorted => "sorted" | .str => "str" | .repr => "repr"
def bjm : Bj → Str
  | .mx => "max" | .mn => "min" | .dm => "divmod"
def tnm : Ty → Str
  | .int => "int" | .bool => "bool" | .tuple => "tuple" | .str => "str"
/-- a call of a global name, without keywords -/
def vCG (k : Ck) (e : Expr) : Option (Str × List Expr) := match vCall e with
  | some (f, as, [], _) => match vName f with
    | some (x, _) => if k.glb x then some (x, as) else none
    | none => none
  | _ => none
theorem vCG_of {k : Ck} {e : Expr} {x : Str} {as : List Expr} (h : vCG k e = some (x, as)) : ∃ p q, e = .Call (.Name x p) as [] q ∧ k.glb x = true := by
  unfold vCG at h
  split at h
  · rename_i f as' pos h1
    split at h
    · rename_i y p h2
      split at h
      · rename_i hg
        simp only [Option.some.injEq, Prod.mk.injEq] at h
        obtain ⟨rfl, rfl⟩ := h
        rw [vCall_of h1, vName_of h2]
        exact ⟨_, _, rfl, hg⟩
      · cases h
    · cases h
  · cases h
/-- a call of a method of a name's object -/
def vCA (e : Expr) : Option (Expr × Str × Pos × List Expr × Pos) := match vCall e with
  | some (f, as, [], q) => match vAtt f with
    | some (o, m, p) => some (o, m, p, as, q)
    | none => none
  | _ => none
theorem vCA_of {e o : Expr} {m : Str} {p q : Pos} {as : List Expr} (h : vCA e = some (o, m, p, as, q)) : e = .Call (.Attribute o m p) as [] q := by
  unfold vCA at h
  split at h
  · rename_i f as' pos h1
    split at h
    · rename_i o' m' p' h2
      simp only [Option.some.injEq, Prod.mk.injEq] at h
      obtain ⟨rfl, rfl, rfl, rfl, rfl⟩ := h
      rw [vCall_of h1, vAtt_of h2]
    · cases h
  · cases h
def ownP (N : List Str) (own : List Nat) : List (Str × Nat) := own.map fun i => ((N[i]?).getD "", i)
def blkB (N : List Str) (sc scope : Scope) (own : List Nat) : Bool :=
  decide (scope.kind = .function) && scope.names.all (fun y => decide (scope.names.lookup y.1 = some y.2)) && own.all (fun i => decide (i < N.length)) &&
  scope.names.all (fun y => !decide (y.2 = .free) || decide (sc.names.lookup y.1 = some .cell) || decide (sc.names.lookup y.1 = some .free)) &&
  scope.names.all fun y => !(decide (y.2 = .local) || decide (y.2 = .cell)) || decide (y.1 ∈ (ownP N own).map (·.1)) || decide (y.1 ∉ N)
def Ck.blk (k : Ck) (scope : Scope) : Ck := ⟨relS scope k.sc, k.N, false, false⟩
/-- a lambda's names: its parameter, captured ones, globals -/
def Ck.lamN (k : Ck) (caps : List Nat) (y : Str) : List Str := y :: caps.map fun i => (k.N[i]?).getD ""
def Ck.lamK (k : Ck) (caps : List Nat) (y : Str) (sc : Scope) : Ck := ⟨sc, k.lamN caps y, false, false⟩
def lamB (k : Ck) (caps : List Nat) (y : Str) (sc : Scope) : Bool :=
  decide (sc.kind = .function) && !sc.isCoroutine && !sc.isGenerator && decide (k.lamN caps y).Nodup && caps.all (fun i => decide (i < k.N.length)) && decide (sc.names.lookup y = some .local) &&
  (caps.all fun i => decide (k.kind ((k.N[i]?).getD "") = some .cell)) && (caps.all fun i => decide (sc.names.lookup ((k.N[i]?).getD "") = some .free)) &&
  sc.names.all fun z => decide (sc.names.lookup z.1 = some z.2) && (decide (z = (y, .local)) || decide (z.2 = .globalImplicit) || (decide (z.2 = .free) && decide (k.kind z.1 = some .cell)))
mutual
def slotsG : Tg → List Nat
  | .nm i => [i]
  | .tp gs => slotsGs gs
  | .sb _ _ => []
def slotsGs : Tgs → List Nat
  | .nil => []
  | .cons g gs => slotsG g ++ slotsGs gs
end
mutual
def chkG : Tg → Ck → Expr → Bool
  | .nm i => fun k e => match vName e with
    | some (x, _) => k.loc i x
    | none => false
  | .tp gs => fun k e => match vTup e with
    | some es => chkGs gs k es
    | none => false
  | .sb i n => fun k e => match vSub e with
    | some (a, b) => k.varE i a && (match vCon b with
      | some c => decide (c = .int n)
      | none => false)
    | none => false
def chkGs : Tgs → Ck → List Expr → Bool
  | .nil => fun _ es => match es with
    | [] => true
    | _ => false
  | .cons g gs => fun k es => match es with
    | e :: es => plainE e && chkG g k e && chkGs gs k es
    | [] => false
end
mutual
def chkE : Tm → Ck → Expr → Bool
  | .var i => fun k e => k.varE i e
  | .non => fun _ e => decide (vCon e = some .none)
  | .bl b => fun _ e => decide (vCon e = some (.bool b))
  | .int i => fun _ e => decide (vCon e = some (.int i))
  | .str x => fun _ e => decide (vCon e = some (.str x))
  | .glo g => fun k e => match vName e with
    | some (x, _) => decide (gnm g = some x) && k.glb x
    | none => false
  | .bin op a b => fun k e => match vBin e with
    | some (l, o, r) => decide (o = op) && chkE a k l && chkE b k r
    | none => false
  | .neg a => fun k e => match vUn e with
    | some (o, x) => decide (o = .USub) && chkE a k x
    | none => false
  | .cmp op a b => fun k e => match vCmp e with
    | some (x, [o], [y]) => decide (o = op) && chkE a k x && chkE b k y && plainE y
    | _ => false
  | .cmp2 o1 o2 a b c => fun k e => match vCmp e with
    | some (x, [o, o'], [y, z]) => decide (o = o1) && decide (o' = o2) && chkE a k x && chkE b k y && chkE c k z && plainE z
    | _ => false
  | .isc ng a c => fun k e => match vCmp e with
    | some (x, [o], [y]) => decide (o = cond ng .IsNot .Is) && chkE a k x && decide (vCon y = some (match c with
      | none => .none
      | some b => .bool b))
    | _ => false
  | .ino ng a i => fun k e => match vCmp e with
    | some (x, [o], [y]) => decide (o = cond ng .NotIn .In) && chkE a k x && k.varE i y
    | _ => false
  | .boo op as => fun k e => match vBoo e with
    | some (o, es) => decide (o = op) && chks as k es && !es.isEmpty
    | none => false
  | .not a => fun k e => match vUn e with
    | some (o, x) => decide (o = .Not) && chkE a k x
    | none => false
  | .ite c a b => fun k e => match vIf e with
    | some (x, y, z) => chkE c k x && chkE a k y && chkE b k z
    | none => false
  | .ix a b => fun k e => match vSub e with
    | some (x, y) => chkE a k x && chkE b k y && plainE y
    | none => false
  | .ixo i b => fun k e => match vSub e with
    | some (x, y) => k.varE i x && chkE b k y && plainE y
    | none => false
  | .sl a lo hi => fun k e => match vSub e with
    | some (x, y) => chkE a k x && (match vSli y with
      | some (l, h) => chkO lo k l && chkO hi k h
      | none => false)
    | none => false
  | .tup as => fun k e => match vTup e with
    | some es => chks as k es
    | none => false
  | .lst as => fun k e => match vLst e with
    | some es => chks as k es
    | none => false
  | .dic0 => fun _ e => match vDic e with
    | some ([], []) => true
    | _ => false
  | .dic1 a b => fun k e => match vDic e with
    | some ([some x], [y]) => chkE a k x && chkE b k y
    | _ => false
  | .bi f a => fun k e => match vCG k e with
    | some (x, [y]) => decide (x = bnm f) && chkE a k y && plainE y
    | _ => false
  | .bio f i => fun k e => match vCG k e with
    | some (x, [y]) => decide (x = bnm f) && k.varE i y
    | _ => false
  | .bj f a b => fun k e => match vCG k e with
    | some (x, [y, z]) => decide (x = bjm f) && chkE a k y && chkE b k z && plainE y && plainE z
    | _ => false
  | .isa a t => fun k e => match vCG k e with
    | some (x, [y, z]) => decide (x = "isinstance") && chkE a k y && plainE y && (match vName z with
      | some (n, _) => decide (n = tnm t) && k.glb n
      | none => false)
    | _ => false
  | .sset a => fun k e => match vCG k e with
    | some (x, [y]) => decide (x = "sorted") && (match vCG k y with
      | some (z, [u]) => decide (z = "set") && chkE a k u && plainE u
      | _ => false)
    | _ => false
  | .lrg as => fun k e => match vCG k e with
    | some (x, [y]) => decide (x = "list") && (match vCG k y with
      | some (z, us) => decide (z = "range") && chks as k us && (decide (us.length = 1) || decide (us.length = 2))
      | _ => false)
    | _ => false
  | .vmx a => fun k e => match vCG k e with
    | some (x, [y]) => decide (x = "max") && (match vCA y with
      | some (o, m, p, [], q) => decide (m = "values") && chkE a k o && (vName o).isSome && (p.endLine == q.line)
      | _ => false)
    | _ => false
  | .dic a => fun k e => match vCG k e with
    | some (x, [y]) => decide (x = "dict") && chkE a k y && plainE y
    | _ => false
  | .get a b c => fun k e => match vCA e with
    | some (o, m, p, [x, y], q) => decide (m = "get") && chkE a k o && (vName o).isSome && chkE b k x && chkE c k y && plainE x && plainE y && (p.endLine == q.line)
    | _ => false
  | .geto i b c => fun k e => match vCA e with
    | some (o, m, p, [x, y], q) => decide (m = "get") && k.varE i o && chkE b k x && chkE c k y && plainE x && plainE y && (p.endLine == q.line)
    | _ => false
  | .upper a => fun k e => match vCA e with
    | some (o, m, p, [], q) => decide (m = "upper") && chkE a k o && (vName o).isSome && (p.endLine == q.line)
    | _ => false
  | .call f as => fun k e => match vCG k e with
    | some (x, es) => decide (fnm f = some x) && chks as k es
    | none => false
  | .callK f as => fun k e => match vCall e with
    | some (g, [], [⟨some n1, e1, _⟩, ⟨some n2, e2, _⟩], _) => (match vName g with
      | some (x, _) => decide (fnm f = some x) && k.glb x && decide (n1 = "certificate") && decide (n2 = "claim") && chks as k [e1, e2] && decide (f = 38)
      | none => false)
    | _ => false
  | .callP f i as => fun k e => match vCG k e with
    | some (x, y :: es) => decide (fnm f = some x) && k.varE i y && chks as k es
    | _ => false
  | .callF i a => fun k e => match vCall e with
    | some (g, [y], [], _) => k.top && k.varE i g && chkE a k y && plainE y
    | _ => false
  | .lc elt tg it ifs own => fun k e => match vLc e with
    | some (x, [⟨t, y, fs, n⟩], sc, _) => decide (n = 0) && blkB k.N k.sc sc own && chkG tg (k.blk sc) t && (slotsG tg).all (own.contains ·) && chkI it k t y && plainE y && chkF ifs (k.blk sc) fs && chkE elt (k.blk sc) x
    | _ => false
  | .lc2 elt tg it ifs tg1 it1 ifs1 own own1 => fun k e => match vLc e with
    | some (x, [⟨t, y, fs, n⟩, ⟨t1, y1, fs1, n1⟩], sc, _) => decide (n = 0) && decide (n1 = 0) && blkB k.N k.sc sc own && chkG tg (k.blk sc) t && (slotsG tg).all (own.contains ·) && chkI it k t y && plainE y && chkF ifs (k.blk sc) fs &&
        own1.all (own.contains ·) && chkG tg1 (k.blk sc) t1 && (slotsG tg1).all (own1.contains ·) && chkI it1 (k.blk sc) t1 y1 && plainE y1 && chkF ifs1 (k.blk sc) fs1 && chkE elt (k.blk sc) x
    | _ => false
  | .settle caps b => fun k e => match vCall e with
    | some (f, [l], [], _) => (match vName f, vLam l with
      | some (x, _), some (args, body, sc, _) => k.lam && decide (x = "_law_settled") && k.glb x && (match lamPar args with
        | some y => lamB k caps y sc && chkE b (k.lamK caps y sc) body
        | none => false)
      | _, _ => false)
    | _ => false
def chks : Ts → Ck → List Expr → Bool
  | .nil => fun _ es => match es with
    | [] => true
    | _ => false
  | .cons a as => fun k es => match es with
    | e :: es => plainE e && chkE a k e && chks as k es
    | [] => false
def chkO : Os → Ck → Option Expr → Bool
  | .no => fun _ e => e.isNone
  | .so a => fun k e => match e with
    | some e => chkE a k e
    | none => false
def chkF : Os → Ck → List Expr → Bool
  | .no => fun _ es => match es with
    | [] => true
    | _ => false
  | .so a => fun k es => match es with
    | [e] => chkE a k e
    | _ => false
def chkI : Im → Ck → Expr → Expr → Bool
  | .seq a => fun k _ e => chkE a k e
  | .rng1 a => fun k _ e => match vCG k e with
    | some (x, [y]) => decide (x = "range") && chkE a k y && plainE y
    | _ => false
  | .rng2 a b => fun k _ e => match vCG k e with
    | some (x, [y, z]) => decide (x = "range") && chkE a k y && chkE b k z && plainE y && plainE z
    | _ => false
  | .enum a => fun k t e => match vCG k e with
    | some (x, [y]) => decide (x = "enumerate") && chkE a k y && plainE y && (vTup t).isSome
    | _ => false
  | .zip a b => fun k t e => match vCG k e with
    | some (x, [y, z]) => decide (x = "zip") && chkE a k y && chkE b k z && plainE y && plainE z && (vTup t).isSome
    | _ => false
  | .dic a => fun k _ e => chkE a k e
end
end K26
namespace K26
open PySem PySem.Spec PyProof.Rows L2 PySem.W PySem.SeqAt

/-! ### operators, by data -/
def Trk (M : Addr → Prop) (H : Hp) : Prop := ∀ a, M a → ∃ o, H a = some o
theorem Trk.new {M : Addr → Prop} {H : Hp} (t : Trk M H) {p : Addr} (h : H p = none) : ¬ M p := fun m => by
  obtain ⟨o, e⟩ := t p m
  rw [h] at e; cases e
theorem same_upd {H : Hp} {p : Addr} {o : HO} (h : H p = none) : Same H (upd H p o) := fun b u e => by rw [upd_ne (ne_of_none e h)]; exact e
theorem AtH.fut {G : Gl0} {M : Addr → Prop} {H H' : Hp} (s : Same H H') {v : V} {d : PyData} (a : AtH G M H v d) : AtH G M H' v d := by
  cases a with
  | of a => exact .of (a.fut (.same s))
  | lst h z t => exact .lst (s _ _ h) z (t.fut (.same s))
  | dic q h u z t => exact .dic q (s _ _ h) u z (t.fut (.same s))
section
variable {X : Cx}
theorem At.int_of {G : Gl0} {M : Addr → Prop} {H : Hp} {v : V} {i : Int} (h : At G M H v (.int i)) : v = .int i := by cases h; rfl
theorem At.bool_of {G : Gl0} {M : Addr → Prop} {H : Hp} {v : V} {i : Bool} (h : At G M H v (.bool i)) : v = .bl i := by cases h; rfl
theorem At.str_of {G : Gl0} {M : Addr → Prop} {H : Hp} {v : V} {i : Str} (h : At G M H v (.str i)) : v = .str i := by cases h; rfl
theorem AtH.int_of {G : Gl0} {M : Addr → Prop} {H : Hp} {v : V} {i : Int} (h : AtH G M H v (.int i)) : v = .int i := by cases h with | of h => exact h.int_of
/-- where a rule is chosen by the values -/
theorem OpR.ex {f : Value → Value → Sem Value} {ι : Type} {r : ι → R2} (h : ∀ i, OpR X f (r i)) : OpR X f (fun x y H Q => ∃ i, r i x y H Q) := by
  intro pins s σ H x y v u Q I rx ry ⟨i, q⟩
  exact h i pins s σ H x y v u Q I rx ry q
theorem OpR.weak {f : Value → Value → Sem Value} {r r' : R2} (h : OpR X f r) (w : ∀ x y H Q, r' x y H Q → r x y H Q) : OpR X f r' := fun pins s σ H x y v u Q I rx ry q => h pins s σ H x y v u Q I rx ry (w _ _ _ _ q)
/-- a place where nothing stands (only its being asked for) -/
def rBin (G : Gl0) (op : Operator) : R2 := fun x y H Q => ∃ M a b d, Trk M H ∧ At G M H x a ∧ At G M H y b ∧ binD op a b = some d ∧ ∀ v H', Same H H' → At G M H' v d → Q v H'
theorem sl_eq : (sizeLine : Nat) = SL := sizeLine_eq
theorem At.newL {G : Gl0} {M : Addr → Prop} {H : Hp} (t : Trk M H) {p : Addr} (hp : H p = none) {xs : List V} {ds : List PyData} (a : AtL G M H xs ds) (z : ds.length ≤ SL) : At G M (upd H p (.lst xs)) (.ref p) (.list ds) :=
  .lst (t.new hp) upd_same (by rw [sl_eq]; exact z) (a.fut (.same (same_upd hp)))
theorem At.newT {G : Gl0} {M : Addr → Prop} {H : Hp} (t : Trk M H) {p : Addr} (hp : H p = none) {xs : List V} {ds : List PyData} (a : AtL G M H xs ds) (z : ds.length ≤ SL) : At G M (upd H p (.tup xs)) (.ref p) (.tuple ds) :=
  .tup (.inl ⟨t.new hp, upd_same⟩) (by rw [sl_eq]; exact z) (a.fut (.same (same_upd hp)))
theorem AtL.rep {G : Gl0} {M : Addr → Prop} {H : Hp} {xs : List V} {ds : List PyData} (a : AtL G M H xs ds) : ∀ k : Nat, AtL G M H (List.replicate k xs).flatten (List.replicate k ds).flatten
  | 0 => .nil
  | k + 1 => by rw [List.replicate_succ, List.replicate_succ]; exact a.append (AtL.rep a k)
theorem Same.refl {H : Hp} : Same H H := fun _ _ h => h
theorem op_bin (op : Operator) : OpR X (binaryOp op) (rBin (gl X) op) := by
  intro pins s σ H x y v u Q I rx ry ⟨M, a, b, d, tr, ha, hb, e, q⟩
  have i2 : ∀ {i : Int}, Q (.int i) H ↔ Q (.int i) H := Iff.rfl
  have fin : ∀ i : Int, d = .int i → Q (.int i) H := fun i e => q _ H Same.refl (by rw [e]; exact .int i)
  unfold binD at e
  split at e
  · rename_i i j
    cases e
    exact op_add pins s σ H x y v u Q I rx ry ⟨i, j, ha.int_of, hb.int_of, fin _ rfl⟩
  · rename_i xs ys
    split at e
    · rename_i z
      cases e
      cases ha with
      | lst n1 h1 z1 t1 =>
        cases hb with
        | lst n2 h2 z2 t2 =>
          refine op_cat pins s σ H _ _ v u Q I rx ry ⟨_, _, _, _, rfl, rfl, h1, h2, by rw [t1.length, t2.length, sl_eq]; exact z, fun p hp => q _ _ (same_upd hp) ?_⟩
          exact At.newL tr hp (t1.append t2) (by rw [List.length_append]; exact z)
    · cases e
  · rename_i xs ys
    split at e
    · rename_i z
      cases e
      obtain ⟨p1, vs1, rfl, s1, t1, z1⟩ := ha.tuple
      obtain ⟨p2, vs2, rfl, s2, t2, z2⟩ := hb.tuple
      refine op_catA pins s σ H _ _ v u Q I rx ry ⟨p1, p2, vs1, vs2, rfl, rfl, s1, s2, by rw [t1.length, t2.length, sl_eq]; exact z, fun e0 => ?_, fun n0 e0 => ?_, fun n0 n1 p hp => ?_⟩
      · subst e0
        cases t1
        exact q _ _ Same.refl hb
      · subst e0
        cases t2
        exact q _ _ Same.refl (by rw [List.append_nil]; exact ha)
      · exact q _ _ (same_upd hp) (At.newT tr hp (t1.append t2) (by rw [List.length_append]; exact z))
    · cases e
  · rename_i x y
    split at e
    · rename_i z
      cases e
      exact op_add_str pins s σ H _ _ v u Q I rx ry ⟨_, _, ha.str_of, hb.str_of, by rw [sl_eq]; exact z, q _ _ Same.refl (.str _)⟩
    · cases e
  · rename_i i j
    cases e
    exact op_sub pins s σ H x y v u Q I rx ry ⟨i, j, ha.int_of, hb.int_of, fin _ rfl⟩
  · rename_i i j
    split at e
    · rename_i z
      cases e
      exact op_mul pins s σ H x y v u Q I rx ry ⟨i, j, ha.int_of, hb.int_of, (by unfold mulB at z; have := of_decide_eq_true z; exact this), fin _ rfl⟩
    · cases e
  · rename_i xs j
    split at e
    · rename_i z
      cases e
      obtain ⟨z1, z2, z3, z4⟩ := z
      cases ha with
      | lst n1 h1 zz t1 =>
        refine op_rep pins s σ H _ _ v u Q I rx ry ⟨_, j, _, rfl, hb.int_of, h1, by omega, by omega, by rw [t1.length, sl_eq]; exact z3, fun p hp => q _ _ (same_upd hp) ?_⟩
        refine At.newL tr hp (t1.rep _) ?_
        rw [PyProof.Rows.lm_len_rep_flat, Nat.mul_comm]; exact z3
    · cases e
  · rename_i i j
    split at e
    · rename_i z
      cases e
      exact op_fdiv pins s σ H x y v u Q I rx ry ⟨i, j, ha.int_of, hb.int_of, z, fin _ rfl⟩
    · cases e
  · rename_i i j
    split at e
    · rename_i z
      cases e
      exact op_mod pins s σ H x y v u Q I rx ry ⟨i, j, ha.int_of, hb.int_of, z, fin _ rfl⟩
    · cases e
  · rename_i i j
    split at e
    · rename_i z
      cases e
      obtain ⟨z1, z2, z3⟩ := z
      exact op_pow pins s σ H x y v u Q I rx ry ⟨i, j, ha.int_of, hb.int_of, ⟨z1, by omega, z3⟩, fin _ rfl⟩
    · cases e
  · cases e

/-- comparisons: the right one may be an object that is changed -/
def rCmp (G : Gl0) (op : CmpOp) : R2 := fun x y H Q => ∃ M a b d, AtH G M H x a ∧ AtH G M H y b ∧ cmpD op a b = some d ∧ Q (.bl d) H
variable {pins : List (Addr × Obj)} {s : Shared} {σ : L2.St} {H : Hp} {x y : V} {v u : Value} {M : Addr → Prop}
theorem nkey (I : Inv X pins σ H s) {k : NestedKey} {ds : List PyData} (hk : keyOf (.tuple ds) = some k) (h : At (gl X) M H x (.tuple ds)) (d8 : k.depth ≤ 8) (r : RelV x v) : ∃ a, v = .ref a ∧ x = .ref a ∧ (nestedKind X.prog X.w).is s.heap k a := by
  have e := keyOf_data _ _ hk
  obtain ⟨a, xs, rfl, _⟩ := h.tuple
  have rv : v = .ref a := r
  subst rv
  exact ⟨a, rfl, rfl, (show At (gl X) M H (.ref a) k.data by rw [e]; exact h).key I _ _ _ rfl, d8⟩
theorem min_dl {a b c U : Nat} (h : a ≤ DL) (r : U + 200 < c) : U + min a b < c := by
  have h : a ≤ 100 := h
  have := Nat.min_le_left a b
  omega
theorem min_dr {a b c U : Nat} (h : b ≤ DL) (r : U + 200 < c) : U + 1 + min a b < c := by
  have h : b ≤ 100 := h
  have := Nat.min_le_right a b
  omega
theorem op_cmp (op : CmpOp) (room : X.A.units + 200 < cLine) : OpR X (compareOp op) (rCmp (gl X) op) := by
  intro pins s σ H x y v u Q I rx ry ⟨M, a, b, d, ha, hb, e, q⟩
  have fin : EP X pins σ Q (.bool d) s := ⟨.bl d, H, I, rfl, q⟩
  have finT : ∀ t, EP X pins σ Q (.bool d) { s with toks := t } := fun t => ⟨.bl d, H, I.tok t, rfl, q⟩
  unfold cmpD at e
  split at e
  · cases e; exact (opB0 fun _ _ _ _ _ _ _ q => lt_int q) pins s σ H x y v u Q I rx ry ⟨_, _, ha.int_of, hb.int_of, q⟩
  · cases e; exact (opB0 fun _ _ _ _ _ _ _ q => le_int q) pins s σ H x y v u Q I rx ry ⟨_, _, ha.int_of, hb.int_of, q⟩
  · cases e; exact (opB0 fun _ _ _ _ _ _ _ q => gt_int q) pins s σ H x y v u Q I rx ry ⟨_, _, ha.int_of, hb.int_of, q⟩
  · cases e; exact (opB0 fun _ _ _ _ _ _ _ q => ge_int q) pins s σ H x y v u Q I rx ry ⟨_, _, ha.int_of, hb.int_of, q⟩
  · rename_i xs ys
    split at e
    · rename_i z
      simp only [Bool.and_eq_true, decide_eq_true_eq] at z
      obtain ⟨⟨⟨z1, z2⟩, z3⟩, z4⟩ := z
      cases e
      obtain ⟨as, r1⟩ := ha.reads I (by simpa [PyData.plain] using z1) rx
      obtain ⟨bs, r2⟩ := hb.reads I (by simpa [PyData.plain] using z2) ry
      exact lt_data r1 r2 z3 (fun z => nomatch z) (min_dl z4 room) fin
    · cases e
  · split at e
    · rename_i z
      simp only [Bool.and_eq_true, decide_eq_true_eq] at z
      obtain ⟨⟨z1, z2⟩, z4⟩ := z
      cases e
      obtain ⟨as, r1⟩ := ha.reads I z1 rx
      obtain ⟨bs, r2⟩ := hb.reads I z2 ry
      exact eq_plain r1 r2 z1 z2 (min_dl z4 room) fin
    · cases e
  · split at e
    · rename_i z
      simp only [Bool.and_eq_true, decide_eq_true_eq] at z
      obtain ⟨⟨z1, z2⟩, z4⟩ := z
      cases e
      obtain ⟨as, r1⟩ := ha.reads I z1 rx
      obtain ⟨bs, r2⟩ := hb.reads I z2 ry
      exact ne_plain r1 r2 z1 z2 (min_dl z4 room) fin
    · cases e
  · rename_i ys
    split at e
    · rename_i z
      simp only [Bool.and_eq_true, decide_eq_true_eq] at z
      obtain ⟨⟨z1, z2⟩, z4⟩ := z
      cases e
      obtain ⟨as, r1⟩ := ha.reads I z1 rx
      obtain ⟨bs, r2⟩ := hb.reads I (by simpa [PyData.plain] using z2) ry
      exact in_list_data r2 r1 z2 z1 (min_dr z4 room) fin
    · cases e
  · rename_i ys
    split at e
    · rename_i z
      simp only [Bool.and_eq_true, decide_eq_true_eq] at z
      obtain ⟨⟨z1, z2⟩, z4⟩ := z
      cases e
      obtain ⟨as, r1⟩ := ha.reads I z1 rx
      obtain ⟨bs, r2⟩ := hb.reads I (by simpa [PyData.plain] using z2) ry
      exact in_tuple_data r2 r1 z2 z1 (min_dr z4 room) fin
    · cases e
  · rename_i ys
    split at e
    · rename_i z
      simp only [Bool.and_eq_true, decide_eq_true_eq] at z
      obtain ⟨⟨z1, z2⟩, z4⟩ := z
      cases e
      obtain ⟨as, r1⟩ := ha.reads I z1 rx
      obtain ⟨bs, r2⟩ := hb.reads I (by simpa [PyData.plain] using z2) ry
      exact notIn_list_data r2 r1 z2 z1 (min_dr z4 room) fin
    · cases e
  · rename_i ys
    split at e
    · rename_i z
      simp only [Bool.and_eq_true, decide_eq_true_eq] at z
      obtain ⟨⟨z1, z2⟩, z4⟩ := z
      cases e
      obtain ⟨as, r1⟩ := ha.reads I z1 rx
      obtain ⟨bs, r2⟩ := hb.reads I (by simpa [PyData.plain] using z2) ry
      exact notIn_tuple_data r2 r1 z2 z1 (min_dr z4 room) fin
    · cases e
  · rename_i xs kvs
    simp only [Option.bind_eq_some_iff] at e
    obtain ⟨k, hk, e⟩ := e
    split at e
    · rename_i d8
      cases e
      have ha' : At (gl X) M H x (.tuple xs) := by cases ha with | of h => exact h
      obtain ⟨p, rfl, rfl, kis⟩ := nkey I hk ha' d8 rx
      obtain ⟨q', zs, rfl, hs, hH, hn, hD, _⟩ := hb.dict
      have ru : u = .ref q' := ry
      subst ru
      refine wpAny_in_heap (knd := nestedKind X.prog X.w) (k := k) (by show X.A.units + 1 + 8 < _; omega) kis hs (dic_at I hH hn hD) ?_
      have lk := hD.look k
      cases e1 : lookD kvs k with
      | none =>
        rw [e1] at lk q
        rw [lk]
        exact ⟨.bl false, H, I.tok _, rfl, q⟩
      | some d =>
        rw [e1] at lk q
        obtain ⟨b, w', _, e2, _⟩ := lk
        rw [e2]
        exact ⟨.bl true, H, I.tok _, rfl, q⟩
    · cases e
  · rename_i xs kvs
    simp only [Option.bind_eq_some_iff] at e
    obtain ⟨k, hk, e⟩ := e
    split at e
    · rename_i d8
      cases e
      have ha' : At (gl X) M H x (.tuple xs) := by cases ha with | of h => exact h
      obtain ⟨p, rfl, rfl, kis⟩ := nkey I hk ha' d8 rx
      obtain ⟨q', zs, rfl, hs, hH, hn, hD, _⟩ := hb.dict
      have ru : u = .ref q' := ry
      subst ru
      refine wpAny_notIn_heap (knd := nestedKind X.prog X.w) (k := k) (by show X.A.units + 1 + 8 < _; omega) kis hs (dic_at I hH hn hD) ?_
      have lk := hD.look k
      cases e1 : lookD kvs k with
      | none =>
        rw [e1] at lk q
        rw [lk]
        exact ⟨.bl true, H, I.tok _, rfl, q⟩
      | some d =>
        rw [e1] at lk q
        obtain ⟨b, w', _, e2, _⟩ := lk
        rw [e2]
        exact ⟨.bl false, H, I.tok _, rfl, q⟩
    · cases e
  · cases e
end
end K26
namespace K26
open PySem PySem.Spec PyProof.Rows L2 PySem.W PySem.SeqAt

section
variable {X : Cx} {pins : List (Addr × Obj)} {s : Shared} {σ : L2.St} {H : Hp} {x y : V} {v u : Value} {M : Addr → Prop}
theorem AtL.ixAt {G : Gl0} {vs : List V} {ds : List PyData} (t : AtL G M H vs ds) {i : Int} {d : PyData} (h : atI ds i = some d) : ∃ w, atI vs i = some w ∧ At G M H w d := by
  unfold atI at h ⊢
  rw [t.length]
  cases e : ixN ds.length i with
  | none => rw [e] at h; cases h
  | some j =>
    rw [e] at h
    exact t.get h
/-- a[b] -/
def rIxD (G : Gl0) : R2 := fun x y H Q => ∃ M a b d, AtH G M H x a ∧ At G M H y b ∧ ixD a b = some d ∧ ∀ w, At G M H w d → Q w H
theorem ix_data (room : X.A.units + 200 < cLine) : IxR X (rIxD (gl X)) := by
  intro value slice pins s σ H x y v u Q I rx ry ⟨M, a, b, d, ha, hb, e, q⟩ hs
  unfold ixD at e
  split at e
  · rename_i xs i
    obtain ⟨p, vs, rfl, hH, t, _⟩ := ha.list
    obtain ⟨w, e1, e2⟩ := t.ixAt e
    exact ix_list value slice pins s σ H _ y v u Q I rx ry ⟨p, vs, i, w, rfl, hb.int_of, .of hH, e1, q w e2⟩ hs
  · rename_i xs i
    obtain ⟨p, vs, rfl, hH, t, _⟩ := ha.tuple
    obtain ⟨w, e1, e2⟩ := t.ixAt e
    exact ix_tup value slice pins s σ H _ y v u Q I rx ry ⟨p, vs, i, w, rfl, hb.int_of, hH, e1, q w e2⟩ hs
  · rename_i kvs ks
    simp only [Option.bind_eq_some_iff] at e
    obtain ⟨k, hk, e⟩ := e
    split at e
    · rename_i d8
      obtain ⟨p, rfl, rfl, kis⟩ := nkey I hk hb d8 ry
      obtain ⟨q', zs, rfl, hsm, hH, hn, hD, _⟩ := ha.dict
      have rv : v = .ref q' := rx
      subst rv
      have lk := hD.look k
      rw [e] at lk
      obtain ⟨b', w', wv, e2, r2, a2⟩ := lk
      have hm := dic_at I hH hn hD
      exact subscriptTail_builtinR (x := w') hm.typeIs slot_dict_getitem.lookup
        (wpAny_getItem_heap (knd := nestedKind X.prog X.w) (k := k) (by show X.A.units + 1 + 8 < _; omega) kis hm e2 ⟨rfl, wv, H, I.tok _, r2, q wv a2⟩) hs
    · cases e
  · cases e
/-- a[lo:hi] -/
def rSlD (G : Gl0) : V → Option Int → Option Int → Hp → VK → Prop := fun x lo hi H Q => ∃ M a d, Trk M H ∧ At G M H x a ∧ slD a lo hi = some d ∧ ∀ w H', Same H H' → At G M H' w d → Q w H'
theorem AtL.cut {G : Gl0} {vs : List V} {ds : List PyData} (t : AtL G M H vs ds) (lo hi : Option Int) : AtL G M H (cutV vs lo hi) (cutD ds lo hi) := by
  unfold cutV cutD
  rw [t.length]
  exact (t.drop _).take _
theorem cutD_len (ds : List PyData) (lo hi : Option Int) : (cutD ds lo hi).length ≤ ds.length := by
  unfold cutD
  rw [List.length_take, List.length_drop]
  omega
theorem cutD_all {ds : List PyData} {lo hi : Option Int} (h : HT.sIx ds.length 0 lo = 0 ∧ HT.sIx ds.length ds.length hi = ds.length) : cutD ds lo hi = ds := by
  unfold cutD
  rw [h.1, h.2]
  simp
theorem sl_data : SlR X (rSlD (gl X)) := by
  intro pins s σ H x v vl vu lo hi sl Q I rx hs pl pu ⟨M, a, d, tr, ha, e, q⟩
  unfold slD at e
  split at e
  · rename_i xs
    cases e
    obtain ⟨p, vs, rfl, hH, t, z⟩ := ha.list
    rw [sl_eq] at z
    exact sl_list pins s σ H _ v vl vu lo hi sl Q I rx hs pl pu ⟨p, vs, rfl, .of hH, fun p' hp => q _ _ (same_upd hp) (At.newL tr hp (t.cut lo hi) (Nat.le_trans (cutD_len _ _ _) z))⟩
  · rename_i xs
    cases e
    obtain ⟨p, vs, rfl, hH, t, z⟩ := ha.tuple
    rw [sl_eq] at z
    refine sl_tupA pins s σ H _ v vl vu lo hi sl Q I rx hs pl pu ⟨p, vs, rfl, hH, fun w => ?_, fun w p' hp => q _ _ (same_upd hp) (At.newT tr hp (t.cut lo hi) (Nat.le_trans (cutD_len _ _ _) z))⟩
    rw [t.length] at w
    exact q _ _ Same.refl (by rw [cutD_all w]; exact ha)
  · cases e
/-- a is None, True .. -/
def cV : Option Bool → V
  | none => .non
  | some b => .bl b
def rIsD (G : Gl0) (ng : Bool) (c : Option Bool) : R2 := fun x y H Q => ∃ M a t, At G M H x a ∧ y = cV c ∧ isD a c = some t ∧ Q (.bl (xor ng t)) H
theorem op_is (ng : Bool) (c : Option Bool) : OpR X (compareOp (cond ng .IsNot .Is)) (rIsD (gl X) ng c) := by
  intro pins s σ H x y v u Q I rx ry ⟨M, a, t, ha, ey, e, q⟩
  cases c with
  | none =>
    have et : t = decide (x = .non) := by cases ha <;> simp [isD] at e <;> simp [← e]
    subst et
    cases ng with
    | false => exact op_isN pins s σ H x y v u Q I rx ry ⟨ey, by simpa using q⟩
    | true => exact op_notN pins s σ H x y v u Q I rx ry ⟨ey, by simpa using q⟩
  | some c =>
    obtain ⟨b, rfl, rfl⟩ : ∃ b, x = .bl b ∧ t = decide (b = c) := by
      cases ha <;> simp [isD] at e
      exact ⟨_, rfl, e.symm⟩
    cases ng with
    | false => exact op_isBl pins s σ H _ y v u Q I rx ry ⟨b, c, rfl, ey, by simpa using q⟩
    | true => exact op_notBl pins s σ H _ y v u Q I rx ry ⟨b, c, rfl, ey, by simpa using q⟩
end
end K26
namespace K26
open PySem PySem.Spec PyProof.Rows L2 PySem.W PySem.SeqAt

theorem intsD_of : ∀ {ds : List PyData} {ns : List Int}, intsD ds = some ns → ds = ns.map PyData.int
  | [], ns, h => by simp only [intsD, Option.some.injEq] at h; subst h; rfl
  | d :: ds, ns, h => by
    cases d <;> simp [intsD] at h
    obtain ⟨ms, h1, rfl⟩ := h
    rw [intsD_of h1]
    rfl
theorem boolsD_of : ∀ {ds : List PyData} {bs : List Bool}, boolsD ds = some bs → ds = bs.map PyData.bool
  | [], ns, h => by simp only [boolsD, Option.some.injEq] at h; subst h; rfl
  | d :: ds, ns, h => by
    cases d <;> simp [boolsD] at h
    obtain ⟨ms, h1, rfl⟩ := h
    rw [boolsD_of h1]
    rfl
theorem foldl_max : ∀ (ns : List Int) (n m : Int), (n :: ns).foldl max m = max m (ns.foldl max n)
  | [], n, m => rfl
  | k :: ns, n, m => by
    show (k :: ns).foldl max (max m n) = max m ((k :: ns).foldl max n)
    rw [foldl_max ns k (max m n), foldl_max ns k n]
    omega
theorem maxI_spec : ∀ {ns : List Int} {m : Int}, maxI ns = some m → m ∈ ns ∧ ∀ y ∈ ns, y ≤ m
  | [], m, h => by cases h
  | n :: ns, m, h => by
    have h : ns.foldl max n = m := Option.some.inj h
    subst h
    induction ns generalizing n with
    | nil => exact ⟨by simp, fun y hy => by simp at hy; subst hy; exact Int.le_refl _⟩
    | cons k ns ih =>
      have q := ih k rfl
      rw [foldl_max]
      have h1 : (k :: ns).foldl max k = ns.foldl max k := by show ns.foldl max (max k k) = _; rw [Int.max_self]
      refine ⟨?_, fun y hy => ?_⟩
      · rcases Int.le_total n (ns.foldl max k) with h | h
        · rw [Int.max_eq_right h]; exact List.mem_cons_of_mem _ q.1
        · rw [Int.max_eq_left h]; exact List.mem_cons_self
      · rcases List.mem_cons.mp hy with rfl | hy
        · exact Int.le_max_left _ _
        · exact Int.le_trans (q.2 y hy) (Int.le_max_right _ _)
theorem foldl_min : ∀ (ns : List Int) (n m : Int), (n :: ns).foldl min m = min m (ns.foldl min n)
  | [], n, m => rfl
  | k :: ns, n, m => by
    show (k :: ns).foldl min (min m n) = min m ((k :: ns).foldl min n)
    rw [foldl_min ns k (min m n), foldl_min ns k n]
    omega
theorem minI_spec : ∀ {ns : List Int} {m : Int}, minI ns = some m → m ∈ ns ∧ ∀ y ∈ ns, m ≤ y
  | [], m, h => by cases h
  | n :: ns, m, h => by
    have h : ns.foldl min n = m := Option.some.inj h
    subst h
    induction ns generalizing n with
    | nil => exact ⟨by simp, fun y hy => by simp at hy; subst hy; exact Int.le_refl _⟩
    | cons k ns ih =>
      have q := ih k rfl
      rw [foldl_min]
      refine ⟨?_, fun y hy => ?_⟩
      · rcases Int.le_total n (ns.foldl min k) with h | h
        · rw [Int.min_eq_left h]; exact List.mem_cons_self
        · rw [Int.min_eq_right h]; exact List.mem_cons_of_mem _ q.1
      · rcases List.mem_cons.mp hy with rfl | hy
        · exact Int.min_le_left _ _
        · exact Int.le_trans (Int.min_le_right _ _) (q.2 y hy)
theorem maxI_pos {ns : List Int} {m : Int} (h : maxI ns = some m) : 0 < ns.length := by cases ns <;> simp [maxI] at h ⊢
theorem minI_pos {ns : List Int} {m : Int} (h : minI ns = some m) : 0 < ns.length := by cases ns <;> simp [minI] at h ⊢

section
variable {X : Cx} {pins : List (Addr × Obj)} {s : Shared} {σ : L2.St} {H : Hp} {x y : V} {v u : Value} {M : Addr → Prop}
def bval : Bi → Value
  | .len => .builtin "len" | .abs => .builtin "abs" | .int => .type "int" | .mxq => .builtin "max" | .mnq => .builtin "min" | .list => .type "list" | .tuple => .type "tuple" | .all => .builtin "all"
  | .sorted => .builtin "sorted" | .str => .type "str" | .repr => .builtin "repr"
def rBi (G : Gl0) (f : Bi) : List V → Hp → VK → Prop := fun xs H Q => ∃ M x a d, xs = [x] ∧ Trk M H ∧ AtH G M H x a ∧ biD f a = some d ∧ ∀ w H', Same H H' → At G M H' w d → Q w H'
theorem each_of_at {G : Gl0} : ∀ {vs : List V} {us : List Value} {ds : List PyData}, AtL G M H vs ds → Vals vs us → EachIs (fun v d => ∃ x, RelV x v ∧ At G M H x d) us ds
  | _, _, _, .nil, .nil => .nil
  | _, _, _, .cons a t, .cons r q => .cons ⟨_, r, a⟩ (each_of_at t q)
theorem at_of_each {G : Gl0} : ∀ {us : List Value} {ds : List PyData}, EachIs (fun v d => ∃ x, RelV x v ∧ At G M H x d) us ds → ∃ vs, AtL G M H vs ds ∧ Vals vs us
  | _, _, .nil => ⟨[], .nil, .nil⟩
  | _, _, .cons ⟨x, r, a⟩ t => by
    obtain ⟨vs, h1, h2⟩ := at_of_each t
    exact ⟨x :: vs, .cons a h1, .cons r h2⟩
theorem each_reads (I : Inv X pins σ H s) : ∀ {vs : List V} {us : List Value} {ds : List PyData}, (∀ d ∈ ds, d.plain = true) → AtL (gl X) M H vs ds → Vals vs us → EachIs (fun v d => ∃ as, Reads s.heap v d as) us ds
  | _, _, _, _, .nil, .nil => .nil
  | _, _, _, p, .cons a t, .cons r q => .cons (a.reads I _ _ _ (p _ List.mem_cons_self) r) (each_reads I (fun d hd => p d (List.mem_cons_of_mem _ hd)) t q)
/-- a list, a tuple of ints -/
theorem ints_seq {K : PySem.W.Frag} {M : Addr → Prop} {vs : List V} {ds : List PyData} {G : Gl0} {ns : List Int} (t : AtL G M H vs ds) (h : intsD ds = some ns) : vs = ns.map V.int := by
  rw [intsD_of h] at t
  exact t.of_ints
theorem xor_nat (i : Int) : (if i < 0 then -i else i) = (i.natAbs : Int) := by split <;> omega
theorem bi_len : CallR X (.builtin "len") (rBi (gl X) .len) := by
  intro pins s σ H xs us Q I r ⟨M, x, a, d, ex, tr, ha, e, q⟩
  subst ex
  cases a with
  | list xs =>
    cases e
    obtain ⟨p, vs, rfl, hH, t, z⟩ := ha.list
    exact call_len_seq pins s σ H _ us Q I r ⟨p, vs, rfl, .inl (.of hH), by rw [t.length]; exact q _ _ Same.refl (.int _)⟩
  | tuple xs =>
    cases e
    obtain ⟨p, vs, rfl, hH, t, z⟩ := ha.tuple
    exact call_len_seq pins s σ H _ us Q I r ⟨p, vs, rfl, .inr hH, by rw [t.length]; exact q _ _ Same.refl (.int _)⟩
  | dict kvs =>
    cases e
    obtain ⟨p, vs, rfl, hs, hH, hn, t, z⟩ := ha.dict
    rw [Vals.ref1 r]
    rw [sizeLine_eq] at z
    refine call_len_dictH (knd := nestedKind X.prog X.w) hs (dic_at I hH hn t) (by rw [t.length]; omega) ⟨.int _, H, I.tok _, ⟨_, rfl⟩, ?_⟩
    rw [t.length]
    exact q _ _ Same.refl (.int _)
  | _ => simp [biD] at e
theorem bi_abs : CallR X (.builtin "abs") (rBi (gl X) .abs) := by
  intro pins s σ H xs us Q I r ⟨M, x, a, d, ex, tr, ha, e, q⟩
  subst ex
  cases a with
  | int i =>
    cases e
    exact call_abs pins s σ H _ us Q I r ⟨i, by rw [ha.int_of], by rw [xor_nat]; exact q _ _ Same.refl (.int _)⟩
  | _ => simp [biD] at e
theorem bi_int : CallR X (.type "int") (rBi (gl X) .int) := by
  intro pins s σ H xs us Q I r ⟨M, x, a, d, ex, tr, ha, e, q⟩
  subst ex
  cases a with
  | int i =>
    cases e
    exact call_int1 pins s σ H _ us Q I r (.inl ⟨i, by rw [ha.int_of], q _ _ Same.refl (.int _)⟩)
  | _ => simp [biD] at e
theorem alike_ints2 (ns : List Int) : PySem.W.AlikeAll (ns.map PyData.int) := by
  refine ⟨fun x hx y hy => ?_, fun x hx => ?_⟩
  · obtain ⟨i, _, rfl⟩ := List.mem_map.mp hx
    obtain ⟨j, _, rfl⟩ := List.mem_map.mp hy
    rfl
  · obtain ⟨i, _, rfl⟩ := List.mem_map.mp hx
    exact fun e => nomatch e
theorem plain_ints : ∀ ns : List Int, PyData.plainAll (ns.map PyData.int) = true
  | [] => rfl
  | n :: ns => by
    show ((PyData.int n).plain && PyData.plainAll (ns.map PyData.int)) = true
    rw [plain_ints ns]
    rfl
theorem reads_int {h : Heap} {v : Value} {i : Int} {as : List Addr} (r : Reads h v (.int i) as) : ∃ t, v = .int i t := by cases r; exact ⟨_, rfl⟩
theorem bi_mxq (hc : X.calm = true) (room : X.A.units + 200 < cLine) : CallR X (.builtin "max") (rBi (gl X) .mxq) := by
  intro pins s σ H xs us Q I r ⟨M, x, a, d, ex, tr, ha, e, q⟩
  subst ex
  cases a with
  | list xs =>
    simp only [biD, Option.bind_eq_some_iff, Option.map_eq_some_iff] at e
    obtain ⟨ns, h1, m, h2, rfl⟩ := e
    obtain ⟨p, vs, rfl, hH, t, z⟩ := ha.list
    have ev := ints_seq t h1 (K := X.K)
    subst ev
    obtain ⟨s1, s2⟩ := maxI_spec h2
    refine cr_max hc pins s σ H _ us Q I r ⟨p, ns, rfl, .of hH, maxI_pos h2, fun m' hm hy => ?_⟩
    have : m' = m := Int.le_antisymm (s2 m' hm) (hy m s1)
    rw [this]
    exact q _ _ Same.refl (.int _)
  | tuple xs =>
    simp only [biD, Option.bind_eq_some_iff, Option.map_eq_some_iff] at e
    obtain ⟨ns, h1, m, h2, rfl⟩ := e
    obtain ⟨p, vs, rfl, hH, t, z⟩ := ha.tuple
    rw [Vals.ref1 r]
    obtain ⟨its, rv, pl, _⟩ := I.tuple hH
    have hd := intsD_of h1
    subst hd
    obtain ⟨as, rd⟩ := t.reads I _ _ _ (plain_ints ns) rv
    cases ns with
    | nil => cases h2
    | cons n ns =>
      have h2 : ns.foldl max n = m := Option.some.inj h2
      refine max_tuple_data (x := .int n) (xs := ns.map .int) (I.ok.hd hc) pl (by simpa using rd) (alike_ints2 (n :: ns)) (by have := depth_ints (n :: ns); simp only [List.map_cons] at this; rw [this]; omega) fun i v h' tk bs hv hr k => ?_
      rw [maxD_ints, h2] at hr
      obtain ⟨t', rfl⟩ := reads_int hr
      exact ⟨.int m, H, I.kept k, ⟨_, rfl⟩, q _ _ Same.refl (.int _)⟩
  | _ => simp [biD] at e
theorem bi_mnq (hc : X.calm = true) (room : X.A.units + 200 < cLine) : CallR X (.builtin "min") (rBi (gl X) .mnq) := by
  intro pins s σ H xs us Q I r ⟨M, x, a, d, ex, tr, ha, e, q⟩
  subst ex
  cases a with
  | list xs =>
    simp only [biD, Option.bind_eq_some_iff, Option.map_eq_some_iff] at e
    obtain ⟨ns, h1, m, h2, rfl⟩ := e
    obtain ⟨p, vs, rfl, hH, t, z⟩ := ha.list
    have ev := ints_seq t h1 (K := X.K)
    subst ev
    obtain ⟨s1, s2⟩ := minI_spec h2
    refine cr_min hc pins s σ H _ us Q I r ⟨p, ns, rfl, .of hH, minI_pos h2, fun m' hm hy => ?_⟩
    have : m' = m := Int.le_antisymm (hy m s1) (s2 m' hm)
    rw [this]
    exact q _ _ Same.refl (.int _)
  | tuple xs =>
    simp only [biD, Option.bind_eq_some_iff, Option.map_eq_some_iff] at e
    obtain ⟨ns, h1, m, h2, rfl⟩ := e
    obtain ⟨p, vs, rfl, hH, t, z⟩ := ha.tuple
    rw [Vals.ref1 r]
    obtain ⟨its, rv, pl, _⟩ := I.tuple hH
    have hd := intsD_of h1
    subst hd
    obtain ⟨as, rd⟩ := t.reads I _ _ _ (plain_ints ns) rv
    cases ns with
    | nil => cases h2
    | cons n ns =>
      have h2 : ns.foldl min n = m := Option.some.inj h2
      refine min_tuple_data (x := .int n) (xs := ns.map .int) (I.ok.hd hc) pl (by simpa using rd) (alike_ints2 (n :: ns)) (by have := depth_ints (n :: ns); simp only [List.map_cons] at this; rw [this]; omega) fun i v h' tk bs hv hr k => ?_
      rw [minD_ints, h2] at hr
      obtain ⟨t', rfl⟩ := reads_int hr
      exact ⟨.int m, H, I.kept k, ⟨_, rfl⟩, q _ _ Same.refl (.int _)⟩
  | _ => simp [biD] at e
theorem bi_all (hc : X.calm = true) : CallR X (.builtin "all") (rBi (gl X) .all) := by
  intro pins s σ H xs us Q I r ⟨M, x, a, d, ex, tr, ha, e, q⟩
  subst ex
  cases a with
  | list xs =>
    simp only [biD, Option.map_eq_some_iff] at e
    obtain ⟨bs, h1, rfl⟩ := e
    obtain ⟨p, vs, rfl, hH, t, z⟩ := ha.list
    rw [boolsD_of h1] at t
    have ev := t.of_bools
    subst ev
    exact cr_all hc pins s σ H _ us Q I r ⟨p, bs, rfl, .of hH, q _ _ Same.refl (.bl _)⟩
  | _ => simp [biD] at e
theorem bi_tuple : CallR X (.type "tuple") (rBi (gl X) .tuple) := by
  intro pins s σ H xs us Q I r ⟨M, x, a, d, ex, tr, ha, e, q⟩
  subst ex
  cases a with
  | list xs =>
    cases e
    obtain ⟨p, vs, rfl, hH, t, z⟩ := ha.list
    rw [sl_eq] at z
    exact call_tuple_of pins s σ H _ us Q I r ⟨p, vs, rfl, .inl ⟨.of hH, fun p' hp => q _ _ (same_upd hp) (At.newT tr hp t z)⟩⟩
  | _ => simp [biD] at e
theorem keys_at (D : List (NestedKey × Addr × Value)) : True := trivial
theorem AtD.keysL {G : Gl0} : ∀ {xs : List (NestedKey × Addr × Value)} {kvs : List (PyData × PyData)}, AtD G M H xs kvs → AtL G M H (xs.map fun x => V.ref x.2.1) (kvs.map (·.1))
  | _, _, .nil => .nil
  | _, _, .cons a n r b t => .cons a (AtD.keysL t)
theorem bi_list (hc : X.calm = true) : CallR X (.type "list") (rBi (gl X) .list) := by
  intro pins s σ H xs us Q I r ⟨M, x, a, d, ex, tr, ha, e, q⟩
  subst ex
  cases a with
  | list xs =>
    cases e
    obtain ⟨p, vs, rfl, hH, t, z⟩ := ha.list
    rw [sl_eq] at z
    exact call_list_of pins s σ H _ us Q I r ⟨p, vs, rfl, .inl (.of hH), fun p' hp => q _ _ (same_upd hp) (At.newL tr hp t z)⟩
  | tuple xs =>
    cases e
    obtain ⟨p, vs, rfl, hH, t, z⟩ := ha.tuple
    rw [sl_eq] at z
    exact call_list_of pins s σ H _ us Q I r ⟨p, vs, rfl, .inr hH, fun p' hp => q _ _ (same_upd hp) (At.newL tr hp t z)⟩
  | dict kvs =>
    cases e
    obtain ⟨p, ks, rfl, hs, hH, hn, t, z⟩ := ha.dict
    rw [Vals.ref1 r]
    obtain ⟨o, es, ep, ho, hx, hdt, he, _, _⟩ := dic_at I hH hn t
    have l1 : es.size = ks.length := size_of_entries he
    have l2 := t.length
    rw [sl_eq] at z
    refine PySem.W.kdl_call (kdl_raw hs hx hdt) (I.ok.hd hc) ho (by rw [sl_eq]; omega) fun h' tk acc' c' kp eq it => ?_
    have ea : acc'.toList = ks.map fun x => Value.ref x.2.1 := by
      have hl : acc'.toList.length = ks.length := by rw [Array.length_toList, it.1]; exact l1
      apply List.ext_getElem?
      intro j
      rw [List.getElem?_map]
      cases hj : acc'.toList[j]? with
      | none =>
        have h1 := List.getElem?_eq_none_iff.mp hj
        rw [List.getElem?_eq_none (by omega)]
        rfl
      | some w =>
        obtain ⟨en, h1, rfl⟩ := it.2 j w (by rw [← Array.getElem?_toList]; exact hj)
        have h2 : es.toList[j]? = some en := by rw [Array.getElem?_toList]; exact h1
        rw [he, List.getElem?_map] at h2
        cases hk : ks[j]? with
        | none => rw [hk] at h2; cases h2
        | some k =>
          rw [hk] at h2
          cases h2
          rfl
    have hv : Vals (ks.map fun x => V.ref x.2.1) acc'.toList := by
      rw [ea]
      have := vals_refs (ks.map fun x => x.2.1)
      rwa [List.map_map, List.map_map] at this
    have hfr : H s.heap.objs.size = none := I.hok.fresh (Nat.le_refl _)
    refine ⟨.ref s.heap.objs.size, upd H s.heap.objs.size (.lst (ks.map fun x => V.ref x.2.1)), I.laid kp (Nat.le_refl _) (show ObjOk X.prog X.w _ _ _ (.lst _) from ⟨?_, acc'.toList, c', hv, ?_⟩), rfl, q _ _ (same_upd hfr) (At.newL tr hfr t.keysL (by rw [List.length_map]; exact z))⟩
    · rw [List.length_map, sl_eq]; omega
    · rw [Array.toArray_toList]; exact eq
  | _ => simp [biD] at e
theorem bi_sorted (room : X.A.units + 200 < cLine) : CallR X (.builtin "sorted") (rBi (gl X) .sorted) := by
  intro pins s σ H xs us Q I r ⟨M, x, a, d, ex, tr, ha, e, q⟩
  subst ex
  cases a with
  | list xs =>
    simp only [biD] at e
    split at e
    · rename_i z
      cases e
      simp only [sortOk, Bool.and_eq_true, List.all_eq_true] at z
      obtain ⟨⟨⟨z1, z2⟩, z3⟩, z4⟩ := z
      obtain ⟨p, vs, rfl, hH, t, zz⟩ := ha.list
      rw [Vals.ref1 r]
      obtain ⟨its, rv, ⟨o, n, ho, hcl, hdi, hdt⟩, _⟩ := I.list (.of hH)
      refine sorted_data (bs := xs) (enc := id) (vs := its) (R := fun v d => ∃ x, RelV x v ∧ At (gl X) M H x d) ⟨o, ho, hcl, n, hdt⟩ (each_of_at t rv) (each_reads I z4 t rv)
        (by rw [List.map_id]; exact fun a ha b hb => z2 a ha b hb) (by
          rw [List.map_id]
          refine .inl fun d hd => ?_
          have q1 := z1 d hd
          cases d with
          | tuple ys =>
            cases ys with
            | nil => cases q1
            | cons y ys => exact ⟨y, ys, rfl⟩
          | _ => cases q1) zz (fun b hb => by have := of_decide_eq_true (z3 b hb); have h2 : b.depth ≤ 100 := this; show X.A.units + 2 + b.depth < cLine; omega) fun out hl he => ?_
      obtain ⟨ws, h1, h2⟩ := at_of_each he
      obtain ⟨c, hcn⟩ := sortedAll_at s.heap its out.toArray
      have hf : H (s.heap.objs.size + 1) = none := I.hok.fresh (Nat.le_succ _)
      have el : ws.length = xs.length := by rw [h2.length, hl]
      refine ⟨.ref (s.heap.objs.size + 1), upd H (s.heap.objs.size + 1) (.lst ws), I.laid (t' := s.toks) (fun _ _ => sortedAll_old) (Nat.le_succ _) (show ObjOk X.prog X.w _ _ _ (.lst ws) from ⟨by rw [el]; exact zz, out, c, h2, hcn⟩), rfl, q _ _ (same_upd hf) ?_⟩
      refine At.newL tr hf h1 ?_
      show (xs.mergeSort (dataLe false id)).length ≤ SL
      rw [List.length_mergeSort, ← sl_eq]
      exact zz
    · cases e
  | _ => simp [biD] at e
mutual
theorem no_dict : ∀ (d : PyData), d.plain = true → d.hasDict = false
  | .none, _ => by simp [PyData.hasDict]
  | .bool _, _ => by simp [PyData.hasDict]
  | .int _, _ => by simp [PyData.hasDict]
  | .str _, _ => by simp [PyData.hasDict]
  | .list xs, h => by simp only [PyData.hasDict]; exact no_dictAll xs (by simpa [PyData.plain] using h)
  | .tuple xs, h => by simp only [PyData.hasDict]; exact no_dictAll xs (by simpa [PyData.plain] using h)
  | .dict _, h => by simp [PyData.plain] at h
theorem no_dictAll : ∀ (ds : List PyData), PyData.plainAll ds = true → PyData.hasDictAll ds = false
  | [], _ => by simp [PyData.hasDictAll]
  | d :: ds, h => by
    have h : d.plain = true ∧ PyData.plainAll ds = true := by simpa [PyData.plainAll] using h
    simp [PyData.hasDictAll, no_dict d h.1, no_dictAll ds h.2]
end
theorem bi_str (hg : X.A.guards = some []) (room : X.A.units + 200 < cLine) : CallR X (.type "str") (rBi (gl X) .str) := by
  intro pins s σ H xs us Q I r ⟨M, x, a, d, ex, tr, ha, e, q⟩
  subst ex
  cases a with
  | int i =>
    simp only [biD] at e
    split at e
    · rename_i z
      cases e
      exact call_str_int pins s σ H _ us Q I r ⟨i, by rw [ha.int_of], z, q _ _ Same.refl (.str _)⟩
    · cases e
  | tuple xs =>
    simp only [biD] at e
    split at e
    · rename_i z
      cases e
      simp only [Bool.and_eq_true, decide_eq_true_eq] at z
      obtain ⟨⟨⟨z0, z1⟩, z2⟩, z3⟩ := z
      obtain ⟨p, vs, ex, _⟩ := ha.tuple
      subst ex
      rw [Vals.ref1 r]
      obtain ⟨as, rd⟩ := ha.reads I z0 (show RelV (.ref p) (.ref p) from rfl)
      have z3 : (PyData.tuple xs).depth ≤ 100 := z3
      exact str_of_reads rd z1 (fun h => by rw [no_dict _ z0] at h; cases h) hg (by omega) (fun _ _ h => h) (fun h' u tk k => ⟨.str _, H, I.kept k, ⟨_, rfl⟩, q _ _ Same.refl (.str _)⟩) (by rw [sl_eq]; exact z2)
    · cases e
  | _ => simp [biD] at e
theorem bi_repr (hg : X.A.guards = some []) (room : X.A.units + 200 < cLine) : CallR X (.builtin "repr") (rBi (gl X) .repr) := by
  intro pins s σ H xs us Q I r ⟨M, x, a, d, ex, tr, ha, e, q⟩
  subst ex
  cases a with
  | tuple xs =>
    simp only [biD] at e
    split at e
    · rename_i z
      cases e
      simp only [Bool.and_eq_true, decide_eq_true_eq] at z
      obtain ⟨⟨⟨z0, z1⟩, z2⟩, z3⟩ := z
      obtain ⟨p, vs, ex, _⟩ := ha.tuple
      subst ex
      rw [Vals.ref1 r]
      obtain ⟨as, rd⟩ := ha.reads I z0 (show RelV (.ref p) (.ref p) from rfl)
      have z3 : (PyData.tuple xs).depth ≤ 100 := z3
      exact repr_of_reads' rd z1 (fun h => by rw [no_dict _ z0] at h; cases h) hg (by omega) (fun _ _ h => h) (fun h' u tk k => ⟨.str _, H, I.kept k, ⟨_, rfl⟩, q _ _ Same.refl (.str _)⟩) (by rw [sl_eq]; exact z2)
    · cases e
  | _ => simp [biD] at e
/-- two arguments -/
def bjval : Bj → Value
  | .mx => .builtin "max" | .mn => .builtin "min" | .dm => .builtin "divmod"
def rBj (G : Gl0) (f : Bj) : List V → Hp → VK → Prop := fun xs H Q => ∃ M x y a b d, xs = [x, y] ∧ Trk M H ∧ At G M H x a ∧ At G M H y b ∧ bjD f a b = some d ∧ ∀ w H', Same H H' → At G M H' w d → Q w H'
theorem bj_all (hc : X.calm = true) (f : Bj) : CallR X (bjval f) (rBj (gl X) f) := by
  intro pins s σ H xs us Q I r ⟨M, x, y, a, b, d, ex, tr, ha, hb, e, q⟩
  subst ex
  unfold bjD at e
  split at e
  · rename_i i j
    cases e
    refine call_max2 hc pins s σ H _ us Q I r ⟨i, j, by rw [ha.int_of, hb.int_of], ?_⟩
    have : (if j > i then j else i) = max i j := by split <;> omega
    rw [this]
    exact q _ _ Same.refl (.int _)
  · rename_i i j
    cases e
    refine call_min2 hc pins s σ H _ us Q I r ⟨i, j, by rw [ha.int_of, hb.int_of], ?_⟩
    have : (if j < i then j else i) = min i j := by split <;> omega
    rw [this]
    exact q _ _ Same.refl (.int _)
  · rename_i i j
    split at e
    · rename_i z
      cases e
      exact call_divmod pins s σ H _ us Q I r ⟨i, j, by rw [ha.int_of, hb.int_of], z, fun p hp => q _ _ (same_upd hp) (At.newT tr hp (.cons (.int _) (.cons (.int _) .nil)) (show 2 ≤ SL by decide))⟩
    · cases e
  · cases e
/-- isinstance -/
def tyS (t : Ty) : String := match t with
  | .int => "int" | .bool => "bool" | .tuple => "tuple" | .str => "str"
theorem kit_non (K : PySem.W.Frag) : ∀ t : Ty, kitOne K (.type "NoneType") (.type (tyS t)) = some false
  | .int => by kernel_rfl
  | .bool => by kernel_rfl
  | .tuple => by kernel_rfl
  | .str => by kernel_rfl
theorem kit_bool (K : PySem.W.Frag) (b : Bool) : ∀ t : Ty, kitOne K (.type "bool") (.type (tyS t)) = some (isaD (.bool b) t)
  | .int => by kernel_rfl
  | .bool => by kernel_rfl
  | .tuple => by kernel_rfl
  | .str => by kernel_rfl
theorem kit_int (K : PySem.W.Frag) (b : Int) : ∀ t : Ty, kitOne K (.type "int") (.type (tyS t)) = some (isaD (.int b) t)
  | .int => by kernel_rfl
  | .bool => by kernel_rfl
  | .tuple => by kernel_rfl
  | .str => by kernel_rfl
theorem kit_str (K : PySem.W.Frag) (b : Str) : ∀ t : Ty, kitOne K (.type "str") (.type (tyS t)) = some (isaD (.str b) t)
  | .int => by kernel_rfl
  | .bool => by kernel_rfl
  | .tuple => by kernel_rfl
  | .str => by kernel_rfl
theorem kit_list (K : PySem.W.Frag) (b : List PyData) : ∀ t : Ty, kitOne K (.type "list") (.type (tyS t)) = some (isaD (.list b) t)
  | .int => by kernel_rfl
  | .bool => by kernel_rfl
  | .tuple => by kernel_rfl
  | .str => by kernel_rfl
theorem kit_tuple (K : PySem.W.Frag) (b : List PyData) : ∀ t : Ty, kitOne K (.type "tuple") (.type (tyS t)) = some (isaD (.tuple b) t)
  | .int => by kernel_rfl
  | .bool => by kernel_rfl
  | .tuple => by kernel_rfl
  | .str => by kernel_rfl
theorem kit_dict (K : PySem.W.Frag) (b : List (PyData × PyData)) : ∀ t : Ty, kitOne K (.type "dict") (.type (tyS t)) = some (isaD (.dict b) t)
  | .int => by kernel_rfl
  | .bool => by kernel_rfl
  | .tuple => by kernel_rfl
  | .str => by kernel_rfl
theorem isa_call (t : Ty) (I : Inv X pins σ H s) {a : PyData} {Q : Value → Shared → Prop} (ha : At (gl X) M H x a) (r : RelV x v) (q : ∀ tk, Q (.bool (isaD a t)) { s with toks := tk }) :
    wpAny (model X.prog X.w) X.A (call (.builtin "isinstance") [v, .type (tyS t)]) Q X.xe s := by
  cases ha with
  | non => cases r; exact kia_one kitx_none I.kIn trivial (kit_non _ t) (fun z => nomatch z) (by cases t <;> exact q)
  | bl b => cases r; exact kia_one kitx_bool I.kIn trivial (kit_bool _ b t) (fun z => nomatch z) q
  | int i => obtain ⟨t', rfl⟩ := r; exact kia_one kitx_int I.kIn trivial (kit_int _ i t) (fun z => nomatch z) q
  | str y => obtain ⟨t', rfl⟩ := r; exact kia_one kitx_str I.kIn trivial (kit_str _ y t) (fun z => nomatch z) q
  | @lst _ _ ds n h z t' =>
    cases r
    obtain ⟨its, rv, ⟨o, n, ho, hcl, _⟩, _⟩ := I.list (.of h)
    exact kia_one kitx_list I.kIn ⟨o, ho, hcl⟩ (kit_list _ ds t) (fun z => nomatch z) q
  | @tup _ _ ds h z t' =>
    cases r
    obtain ⟨its, rv, ⟨o, ho, hcl, _⟩, _⟩ := I.tuple (sqT_of h)
    exact kia_one kitx_tuple I.kIn ⟨o, ho, hcl⟩ (kit_tuple _ ds t) (fun z => nomatch z) q
  | @dic _ _ kvs _ n hs h u z t' =>
    cases r
    obtain ⟨o, es, ep, ho, hx, _⟩ := dic_at I ⟨_, h⟩ u t'
    exact kia_one kitx_dict I.kIn ⟨o, ho, hx.1⟩ (kit_dict _ kvs t) (fun z => nomatch z) q
end
end K26
namespace K26
open PySem PySem.Spec PyProof.Rows L2 PySem.W PySem.SeqAt

section
variable {X : Cx} {pins : List (Addr × Obj)} {s : Shared} {σ : L2.St} {H : Hp} {x y : V} {v u : Value} {M : Addr → Prop}
theorem keys_put (xs : List (NestedKey × Addr × Value)) (k : NestedKey) (w : Value) : (xs.map (putAt k w)).map (·.1) = xs.map (·.1) := by
  rw [List.map_map]
  refine List.map_congr_left fun p _ => ?_
  show (putAt k w p).1 = p.1
  unfold putAt
  split <;> rfl
theorem atKey_none {xs : List (NestedKey × Addr × Value)} {k : NestedKey} (h : atKey xs k = none) : k ∉ xs.map (·.1) := by
  induction xs with
  | nil => simp
  | cons p xs ih =>
    obtain ⟨k', b, w⟩ := p
    by_cases e : k' = k
    · subst e; simp [atKey] at h
    · have h' : atKey xs k = none := by simpa [atKey, e] using h
      intro hm
      rcases List.mem_cons.mp hm with z | z
      · exact e z.symm
      · exact ih h' z
theorem storedH_nodup {xs : List (NestedKey × Addr × Value)} (h : (xs.map (·.1)).Nodup) (k : NestedKey) (b : Addr) (w : Value) : ((storedH xs k b w).map (·.1)).Nodup := by
  cases e : atKey xs k with
  | none =>
    rw [storedH_new e, List.map_append]
    exact List.nodup_append.mpr ⟨h, by simp, fun a ha b hb z => by
      have hb : b = k := by simpa using hb
      subst hb z
      exact atKey_none e ha⟩
  | some p => rw [storedH_old e, keys_put]; exact h
/-- one turn of dict(pairs) -/
def dstep (kvs : List (PyData × PyData)) (p : PyData) : Option (List (PyData × PyData)) := match p with
  | .tuple [.tuple ks, v] => (keyOf (.tuple ks)).bind fun k => if k.depth ≤ 8 then some (storeD kvs k v) else none
  | _ => none
theorem pairsD (I : Inv X pins σ H s) : ∀ (xs : List PyData) (vs : List V) (us : List Value) (kvs0 kvs : List (PyData × PyData)), AtL (gl X) M H vs xs → Vals vs us → xs.foldlM dstep kvs0 = some kvs →
    ∃ (Ts : List Addr) (ps : List (NestedKey × Addr × Value)), us = Ts.map Value.ref ∧ Ts.length = ps.length ∧ (∀ (j : Nat) (k : NestedKey) (b : Addr) (w : Value), ps[j]? = some (k, b, w) → ∃ T, Ts[j]? = some T ∧ PairAt s.heap T (.ref b) w) ∧
      (∀ p ∈ ps, (nestedKind X.prog X.w).is s.heap p.1 p.2.1) ∧ ∀ zs, AtD (gl X) M H zs kvs0 → (zs.map (·.1)).Nodup → AtD (gl X) M H (storedAllH zs ps) kvs ∧ ((storedAllH zs ps).map (·.1)).Nodup
  | [], vs, us, kvs0, kvs, t, r, e => by
    cases t
    cases r
    have e : kvs0 = kvs := by simpa using e
    subst e
    exact ⟨[], [], rfl, rfl, fun j k b w h => by simp at h, fun p h => by simp at h, fun zs a n => ⟨a, n⟩⟩
  | d :: xs, vs, us, kvs0, kvs, t, r, e => by
    rw [List.foldlM_cons] at e
    obtain ⟨kvs1, e1, e2⟩ := Option.bind_eq_some_iff.mp e
    cases t with
    | cons ad t =>
      cases r with
      | cons rd r =>
        unfold dstep at e1
        split at e1
        · rename_i ks w
          obtain ⟨k, hk, e1⟩ := Option.bind_eq_some_iff.mp e1
          split at e1
          · rename_i d8
            cases e1
            obtain ⟨Ts, ps, h1, h2, h3, h4, h5⟩ := pairsD I xs _ _ _ _ t r e2
            obtain ⟨T, ws, rfl, hs, tt, _⟩ := ad.tuple
            cases rd
            cases tt with
            | cons ak tt =>
              cases tt with
              | cons aw tt =>
                cases tt
                obtain ⟨its, rv, pl, _⟩ := I.tuple hs
                cases rv with
                | cons rk rv =>
                  cases rv with
                  | @cons _ wu _ _ rw rv =>
                    cases rv
                    obtain ⟨b, rfl, rfl, kis⟩ := nkey I hk ak d8 rk
                    refine ⟨T :: Ts, (k, b, wu) :: ps, by rw [h1]; rfl, by simp [h2], fun j k' b' w' hj => ?_, fun p hp => ?_, fun zs az nz => ?_⟩
                    · cases j with
                      | zero =>
                        simp only [List.getElem?_cons_zero, Option.some.injEq, Prod.mk.injEq] at hj
                        obtain ⟨rfl, rfl, rfl⟩ := hj
                        exact ⟨T, rfl, .inl pl⟩
                      | succ j =>
                        obtain ⟨T', q1, q2⟩ := h3 j k' b' w' (by simpa using hj)
                        exact ⟨T', by simpa using q1, q2⟩
                    · rcases List.mem_cons.mp hp with rfl | hp
                      · exact kis
                      · exact h4 p hp
                    · have ek := keyOf_data _ _ hk
                      exact h5 (storedH zs k b wu) (az.stored nz (by rw [ek]; exact ak) d8 rw aw) (storedH_nodup nz k b wu)
          · cases e1
        · cases e1
def rDic (G : Gl0) : List V → Hp → VK → Prop := fun xs H Q => ∃ M x a d, xs = [x] ∧ Trk M H ∧ At G M H x a ∧ dicD a = some d ∧ ∀ w H', Same H H' → At G M H' w d → Q w H'
theorem storedAllH_len (ps : List (NestedKey × Addr × Value)) : ∀ zs : List (NestedKey × Addr × Value), (storedAllH zs ps).length ≤ zs.length + ps.length := by
  induction ps with
  | nil => intro zs; exact Nat.le_refl _
  | cons p ps ih =>
    intro zs
    have h1 := ih (storedH zs p.1 p.2.1 p.2.2)
    have h2 := storedH_length zs p.1 p.2.1 p.2.2
    show (storedAllH (storedH zs p.1 p.2.1 p.2.2) ps).length ≤ _
    simp only [List.length_cons]
    omega
theorem bi_dict (hc : X.calm = true) (room : X.A.units + 200 < cLine) : CallR X (.type "dict") (rDic (gl X)) := by
  intro pins s σ H xs us Q I r ⟨M, x, a, d, ex, tr, ha, e, q⟩
  subst ex
  unfold dicD at e
  split at e
  · rename_i xs
    simp only [Option.map_eq_some_iff] at e
    obtain ⟨kvs, e, rfl⟩ := e
    have e : xs.foldlM dstep [] = some kvs := e
    obtain ⟨p, vs, rfl, hH, t, z⟩ := ha.list
    rw [Vals.ref1 r]
    obtain ⟨its, rv, ⟨o, n, ho, hcl, hdi, hdt⟩, _⟩ := I.list (.of hH)
    obtain ⟨Ts, ps, h1, h2, h3, h4, h5⟩ := pairsD I xs vs its [] kvs t rv e
    subst h1
    have hl : ps.length = xs.length := by rw [← h2, ← t.length, rv.length, List.length_map]
    have hz : ps.length ≤ sizeLine := by rw [hl]; exact z
    let prs : List (Value × Value) := ps.map fun p => (Value.ref p.2.1, p.2.2)
    have hpl : prs.length = ps.length := by simp [prs]
    refine call_dict_pairsH (knd := nestedKind X.prog X.w) (ps := ps) (PairArg.list p (Ts.map Value.ref).toArray (fun j => Ts.getD j 0) prs) (I.ok.hd hc) (by show X.A.units + 1 + 1 + 8 < _; omega)
      ⟨⟨o, n, ho, hcl, hdi, hdt⟩, by rw [List.size_toArray, List.length_map, hpl, h2], fun j k w hj => ?_⟩ ⟨hpl.symm, fun i key w hi => ?_⟩ (fun h' hk' pp hp => ?_) (by rw [hpl]; exact hz) fun h' tk hd' k => ?_
    · have hj' : (ps.map fun p => (Value.ref p.2.1, p.2.2))[j]? = some (k, w) := hj
      rw [List.getElem?_map] at hj'
      cases hp : ps[j]? with
      | none => rw [hp] at hj'; cases hj'
      | some pp =>
        rw [hp] at hj'
        obtain ⟨pk, pb, pw⟩ := pp
        simp only [Option.map_some, Option.some.injEq, Prod.mk.injEq] at hj'
        obtain ⟨rfl, rfl⟩ := hj'
        obtain ⟨T, q1, q2⟩ := h3 j pk pb pw hp
        have e1 : Ts.getD j 0 = T := by rw [List.getD_eq_getElem?_getD, q1]; rfl
        refine ⟨?_, by show PairAt s.heap (Ts.getD j 0) _ _; rw [e1]; exact q2⟩
        show _ = some (Value.ref (Ts.getD j 0))
        rw [e1]
        simp [q1]
    · have hj' : (ps.map fun p => (Value.ref p.2.1, p.2.2))[i]? = some (key, w) := hi
      rw [List.getElem?_map] at hj'
      cases hp : ps[i]? with
      | none => rw [hp] at hj'; cases hj'
      | some pp =>
        rw [hp] at hj'
        obtain ⟨pk, pb, pw⟩ := pp
        simp only [Option.map_some, Option.some.injEq, Prod.mk.injEq] at hj'
        obtain ⟨rfl, rfl⟩ := hj'
        exact ⟨pk, pb, rfl, rfl⟩
    · have q1 := h4 pp hp
      exact nestedKind_stays.all h' (fun b o _ e => hk' b o (Nat.ne_of_lt (Heap.lt_size e)) (by simp) e) _ _ q1
    · obtain ⟨q1, q2⟩ := h5 [] .nil List.nodup_nil
      have hf : H s.heap.objs.size = none := I.hok.fresh (Nat.le_refl _)
      have hsm : (s.heap.objs.size == sysModules) = false := beq_eq_false_iff_ne.mpr (Nat.ne_of_gt I.big)
      obtain ⟨ep, dn⟩ := dic_new hd'
      refine ⟨.ref s.heap.objs.size, upd H s.heap.objs.size (dicO X.prog X.w s.heap.objs.size (storedAllH [] ps) ep), I.laid (t' := tk) (fun b o e => k b o (by simp) e) (Nat.le_refl _) (dn _), rfl, q _ _ (same_upd hf) ?_⟩
      refine .dic (tr.new hf) hsm upd_same q2 ?_ (q1.fut (.same (same_upd hf)))
      rw [← q1.length]
      have := storedAllH_len ps []
      simp only [List.length_nil, Nat.zero_add] at this
      exact Nat.le_trans this hz
  · cases e
end
end K26
namespace K26
open PySem PySem.Spec PyProof.Rows L2 PySem.W PySem.SeqAt

/-! ### list(range(..)) where the bounds are long: nothing in it -/
section
variable {P : Program} {w : World} {A : Around} {E : Value → Shared → Prop} {s : Shared}
theorem ext_long {R : Result → Shared → Prop} {r T : Addr} {a b : Int} {t u v : Tok} (hh : A.handled = none) (hr : IsRange s.heap r a b 1 t u v) (big : Builtin.Range.small a b 1 = false) (h0 : Builtin.Range.rangeSize a b 1 = ((0 : Nat) : Int))
    (ne : T ≠ r) (c : Nat) (hT : s.heap.get? T = some { cls := .type "list", data := .seq #[] c })
    (hR : ∀ h' tk c', (∀ b o, b ≠ T → s.heap.get? b = some o → h'.get? b = some o) → h'.get? T = some { cls := .type "list", dict := none, data := .seq #[] c', slots := #[] } → R (.ok (.ret .none)) { s with heap := h', toks := tk }) :
    wpAny (model P w) A.in1 (Builtin.List.listExtendWith (.ref T) (.ref r) .none)
      (fun fin t => match fin with | .done f => R (.ok f) t | .again c' => c'.quiet = true ∧ codeAny (model P w) A c' R t) (fun e t => R (.error e) t) s := by
  have lt := Heap.lt_size hT
  have nI : T ≠ s.heap.objs.size := Nat.ne_of_lt lt
  have nf : T ∉ [s.heap.objs.size] := fun hm => nI (List.mem_singleton.mp hm)
  have W := (Walks.longrange (prog := P) (w := w) (A := A.in1) hh s.heap.objs.size a 1 0).toS
  unfold Builtin.List.listExtendWith
  refine wpAny_bind (wpAny_typeOf (T := "range") ⟨_, hr, rfl⟩ ?_)
  have e1 : Builtin.List.listSameRef (.ref T) (.ref r) = false := by simp [Builtin.List.listSameRef, ne]
  simp only [e1, show (Value.type "range" == Value.type "list") = false by decide, show (Value.type "range" == Value.type "tuple") = false by decide, Bool.or_false, Bool.false_eq_true, if_false]
  refine wpAny_bind (wpAny_pyIter_longrange hr big ?_)
  refine wpAny_bind (wpAny_holding (wpAny_hint_range (n := 0) (Heap.get?_push_of_some _ hr) h0 (by omega) ?_))
  have st : IsLongIter (s.heap.push { cls := .type "longrange_iterator", data := .fields #[rawInt a, rawInt (Builtin.Range.rangeSize a b 1), rawInt 1] }) s.heap.objs.size (a + ((0 : Nat) : Int) * 1) (((0 : Nat) : Int) - ((0 : Nat) : Int)) 1 := by
    show IsLongIter _ _ _ _ _
    rw [h0]
    simpa using Heap.get?_push_size _ rfl
  refine wpAny_ite_split (fun z => absurd z (by decide)) fun _ => wpAny_pure ⟨plainId_quiet F.plain_extend_loop _, ?_⟩
  refine codeAny_extend_loopS W (Nat.zero_le _) T nf .none 0 0 _ #[] c rfl (Nat.le_refl _) st (Heap.get?_push_of_some _ hT) (ItemsOf.nil _) fun t' acc c' hm hS hacc => ?_
  have ea : acc = #[] := Array.size_eq_zero_iff.mp hacc.1
  subst ea
  rw [Moved.eq_with hm]
  refine hR t'.heap t'.toks c' (fun b o hb e => hm.heap b o (fun z => ?_) (Heap.get?_push_of_some _ e)) hS
  rcases List.mem_cons.mp z with z | z
  · exact hb z
  · exact Nat.lt_irrefl _ (List.mem_singleton.mp z ▸ Heap.lt_size e)
theorem init_long {R : Result → Shared → Prop} {r T : Addr} {a b : Int} {t u v : Tok} (hh : A.handled = none) (hr : IsRange s.heap r a b 1 t u v) (big : Builtin.Range.small a b 1 = false) (h0 : Builtin.Range.rangeSize a b 1 = ((0 : Nat) : Int))
    (hT : s.heap.get? T = some { cls := .type "list", data := .seq #[] })
    (hR : ∀ h' tk c', (∀ b o, b ≠ T → s.heap.get? b = some o → h'.get? b = some o) → h'.get? T = some { cls := .type "list", dict := none, data := .seq #[] c', slots := #[] } → R (.ok (.ret .none)) { s with heap := h', toks := tk }) :
    wpAny (model P w) A.in1 (Builtin.«list.__init__» ⟨[.ref T, .ref r], []⟩)
      (fun fin t => match fin with | .done f => R (.ok f) t | .again c' => c'.quiet = true ∧ codeAny (model P w) A c' R t) (fun e t => R (.error e) t) s := by
  have ne : T ≠ r := fun z => by rw [z, hr] at hT; simp at hT
  show wpAny _ _ (Builtin.List.listItems (.ref T) >>= fun old => Builtin.List.listUpdate (.ref T) (fun _ => #[]) >>= fun _ => letGo old.toList.reverse >>= fun _ => Builtin.List.listExtendWith (.ref T) (.ref r) .none) _ _ s
  refine wpAny_bind ?_
  unfold Builtin.List.listItems
  refine wpAny_bind (wpAny_seqItems hT rfl (wpAny_pure (wpAny_bind (m := updateSeq T fun _ => #[]) (wpAny_updateSeq hT rfl ?_))))
  have oth : ∀ b o, b ≠ T → s.heap.get? b = some o → (s.heap.update T (Obj.mapSeq fun _ => (#[] : Array Value))).get? b = some o := fun b o hb e => (Heap.get?_update_other _ _ (Ne.symm hb)).trans e
  exact wpAny_bind (wpAny_letGo (ext_long hh (oth r _ (Ne.symm ne) hr) big h0 ne _ (Heap.get?_update_self (Obj.mapSeq fun _ => (#[] : Array Value)) hT rfl) fun h' tk c' k => hR h' tk c' fun b o hb e => k b o hb (oth b o hb e)))
theorem list_long {Q : Value → Shared → Prop} {r : Addr} {a b : Int} {t u v : Tok} (hh : A.handled = none) (hr : IsRange s.heap r a b 1 t u v) (big : Builtin.Range.small a b 1 = false) (h0 : Builtin.Range.rangeSize a b 1 = ((0 : Nat) : Int))
    (hQ : ∀ h' tk c', (∀ b o, s.heap.get? b = some o → h'.get? b = some o) → h'.get? s.heap.objs.size = some { cls := .type "list", dict := none, data := .seq #[] c', slots := #[] } → Q (.ref s.heap.objs.size) { s with heap := h', toks := tk }) :
    wpAny (model P w) A (call (.type "list") [.ref r]) Q E s := by
  refine callType_codes (Q₁ := fun ob t => ob = .ref s.heap.objs.size ∧ t = { s with heap := s.heap.push { cls := .type "list", data := .seq #[] } }) F.called_list (F.typeCall_list_1 _) F.entry_list_init (code_list_new _ ⟨rfl, rfl⟩) ?_
  rintro ob t ⟨rfl, rfl⟩
  have gT := Heap.get?_push_size s.heap (o := { cls := .type "list", data := .seq #[] }) rfl
  refine ⟨⟨_, gT, rfl⟩, F.args_list_init_2 _ _, init_long (A := A.in1) hh (Heap.get?_push_of_some _ hr) big h0 gT fun h' tk c' k g => ⟨rfl, hQ h' tk c' (fun b o e => k b o (Nat.ne_of_lt (Heap.lt_size e)) (Heap.get?_push_of_some _ e)) g⟩⟩
end
end K26
namespace K26
open PySem PySem.Spec PyProof.Rows L2 PySem.W PySem.SeqAt

/-! ### the readings over data -/
def lE (G : Gl0) (F : Fx) (f : Gm → Pl → Re) : TE := fun σ H Q => ∃ W Γ S d S', W.F = F ∧ Rep G W H σ Γ S ∧ f Γ S = some (d, S') ∧ ∀ v H', Keep W H H' → Rep G W H' σ Γ S' → At G W.M H' v d → Q v H'
def lT (G : Gl0) (F : Fx) (f : Gm → Pl → Option (Bool × Pl)) : TT := fun σ H Q => ∃ W Γ S b S', W.F = F ∧ Rep G W H σ Γ S ∧ f Γ S = some (b, S') ∧ ∀ H', Keep W H H' → Rep G W H' σ Γ S' → Q b H'
def lA (G : Gl0) (F : Fx) (f : Gm → Pl → Option (List PyData × Pl)) : TA := fun σ H Q => ∃ W Γ S ds S', W.F = F ∧ Rep G W H σ Γ S ∧ f Γ S = some (ds, S') ∧ ∀ vs H', Keep W H H' → Rep G W H' σ Γ S' → AtL G W.M H' vs ds → Q vs H'
def tst (f : Gm → Pl → Re) : Gm → Pl → Option (Bool × Pl) := fun Γ S => (f Γ S).bind fun p => (boolD p.1).map fun b => (b, p.2)
def un (f : Gm → Pl → Re) (h : PyData → Option PyData) : Gm → Pl → Re := fun Γ S => (f Γ S).bind fun p => (h p.1).map fun d => (d, p.2)
def bi2 (f g : Gm → Pl → Re) (h : PyData → PyData → Option PyData) : Gm → Pl → Re := fun Γ S => (f Γ S).bind fun p => (g Γ p.2).bind fun q => (h p.1 q.1).map fun d => (d, q.2)
section
variable {X : Cx} {F : Fx} {e : Expr} {f g : Gm → Pl → Re}
theorem peW {t t' : TE} (h : PE X e t) (w : ∀ σ H Q, t' σ H Q → t σ H Q) : PE X e t' := ⟨fun pins s σ H Q I q => h.run pins s σ H Q I (w σ H Q q)⟩
theorem ptW {t t' : TT} (h : PT X e t) (w : ∀ σ H Q, t' σ H Q → t σ H Q) : PT X e t' := ⟨fun pins s σ H Q I q => h.run pins s σ H Q I (w σ H Q q)⟩
theorem pwW {t t' : TT} (h : PW X e t) (w : ∀ σ H Q, t' σ H Q → t σ H Q) : PW X e t' := ⟨fun wh pins s σ H Q I q => h.run wh pins s σ H Q I (w σ H Q q)⟩
theorem paW {es : List Expr} {t t' : TA} (h : PA X es t) (w : ∀ σ H Q, t' σ H Q → t σ H Q) : PA X es t' := ⟨fun pos pins s σ H Q I q => h.run pos pins s σ H Q I (w σ H Q q)⟩
theorem psW {st : Stmt} {t t' : TS} (h : PS X st t) (w : ∀ D σ H, t' D σ H → t D σ H) : PS X st t' := ⟨fun pins s σ H D I q => h.run pins s σ H D I (w D σ H q)⟩
theorem pssW {sts : List Stmt} {t t' : TS} (h : PSs X sts t) (w : ∀ D σ H, t' D σ H → t D σ H) : PSs X sts t' := ⟨fun pins s σ H D I q => h.run pins s σ H D I (w D σ H q)⟩
theorem Rep.tr {G : Gl0} {W : Wx} {H : Hp} {σ : L2.St} {Γ : Gm} {S : Pl} (R : Rep G W H σ Γ S) : Trk W.M H := R.trk
/-- a one-place operation -/
def rUn (G : Gl0) (h : PyData → Option PyData) (x : V) (H : Hp) (Q : VK) : Prop := ∃ M a d, Trk M H ∧ At G M H x a ∧ h a = some d ∧ ∀ w H', Same H H' → At G M H' w d → Q w H'
def rB2 (G : Gl0) (h : PyData → PyData → Option PyData) (x y : V) (H : Hp) (Q : VK) : Prop := ∃ M a b d, Trk M H ∧ At G M H x a ∧ At G M H y b ∧ h a b = some d ∧ ∀ w H', Same H H' → At G M H' w d → Q w H'
theorem lE_un {G : Gl0} {h : PyData → Option PyData} {r : V → Hp → VK → Prop} (w : ∀ x H Q, rUn G h x H Q → r x H Q) (σ : L2.St) (H : Hp) (Q : VK) (q : lE G F (un f h) σ H Q) : lE G F f σ H fun x H1 => r x H1 Q := by
  obtain ⟨W, Γ, S, d, S', hF, R, e, k⟩ := q
  obtain ⟨p, e1, e⟩ := Option.bind_eq_some_iff.mp e
  obtain ⟨d', e2, e⟩ := Option.map_eq_some_iff.mp e
  cases e
  exact ⟨W, Γ, S, p.1, p.2, hF, R, e1, fun v H1 k1 R1 a1 => w _ _ _ ⟨W.M, p.1, d, R1.tr, a1, e2, fun w' H2 s2 a2 => k w' H2 (k1.trans (.same s2)) (R1.same s2) a2⟩⟩
theorem lE_b2 {G : Gl0} {h : PyData → PyData → Option PyData} {r : R2} (w : ∀ x y H Q, rB2 G h x y H Q → r x y H Q) (σ : L2.St) (H : Hp) (Q : VK) (q : lE G F (bi2 f g h) σ H Q) : tOp r (lE G F f) (lE G F g) σ H Q := by
  obtain ⟨W, Γ, S, d, S', hF, R, e, k⟩ := q
  obtain ⟨p, e1, e⟩ := Option.bind_eq_some_iff.mp e
  obtain ⟨q, e2, e⟩ := Option.bind_eq_some_iff.mp e
  obtain ⟨d', e3, e⟩ := Option.map_eq_some_iff.mp e
  cases e
  exact ⟨W, Γ, S, p.1, p.2, hF, R, e1, fun v H1 k1 R1 a1 => ⟨W, Γ, p.2, q.1, q.2, hF, R1, e2, fun u H2 k2 R2 a2 => w _ _ _ _ ⟨W.M, p.1, q.1, d, R2.tr, a1.fut (k2.fut R1), a2, e3, fun w' H3 s3 a3 =>
    k w' H3 ((k1.trans k2).trans (.same s3)) (R2.same s3) a3⟩⟩⟩
theorem tB_lT {G : Gl0} (σ : L2.St) (H : Hp) (Q : Bool → Hp → Prop) (q : lT G F (tst f) σ H Q) : tB (lE G F f) σ H Q := by
  obtain ⟨W, Γ, S, d, S', hF, R, e, k⟩ := q
  obtain ⟨p, e1, e⟩ := Option.bind_eq_some_iff.mp e
  obtain ⟨b, e2, e⟩ := Option.map_eq_some_iff.mp e
  cases e
  refine ⟨W, Γ, S, p.1, p.2, hF, R, e1, fun v H1 k1 R1 a1 => ⟨d, ?_, k H1 k1 R1⟩⟩
  cases h : p.1 <;> rw [h] at e2 <;> simp [boolD] at e2
  subst e2
  rw [h] at a1
  exact a1.bool_of
/-- the test that a value is, for all but and, or, not, if, comparisons -/
theorem pt_def (h : PE X e (lE (gl X) F f)) (he : ∀ whole, isTrue e X.env whole = (do let v ← whole; standAt e.pos; holding [v] (truthy v)) := by intro _; rfl) : PT X e (lT (gl X) F (tst f)) := ptW (pt_val h he) tB_lT
theorem tTest_lT {G : Gl0} {t : TE} (w : ∀ σ H Q, lE G F f σ H Q → t σ H Q) (σ : L2.St) (H : Hp) (Q : Bool → Hp → Prop) (q : lT G F (tst f) σ H Q) : tTest t σ H Q := by
  have := tB_lT σ H Q q
  exact w _ _ _ this
theorem relv_cV (c : Option Bool) : True := trivial
theorem boolD_of {d : PyData} {b : Bool} (h : boolD d = some b) : d = .bool b := by cases d <;> simp [boolD] at h; rw [h]
/-! ### constants, names -/
theorem lE_const {G : Gl0} {d : PyData} {v : V} (h : ∀ M H, At G M H v d) (σ : L2.St) (H : Hp) (Q : VK) (q : lE G F (fun _ S => some (d, S)) σ H Q) : tC v σ H Q := by
  obtain ⟨W, Γ, S, d', S', hF, R, e, k⟩ := q
  cases e
  exact k v H .refl R (h _ _)
theorem lE_var {G : Gl0} {i : Nat} (σ : L2.St) (H : Hp) (Q : VK) (q : lE G F (evE c (.var i)) σ H Q) : tVar i σ H Q := by
  obtain ⟨W, Γ, S, d', S', hF, R, e, k⟩ := q
  have e : (match Γ[i]? with
    | some (some (.d x)) => some (x, S)
    | _ => none) = some (d', S') := e
  split at e
  · rename_i x hx
    cases e
    obtain ⟨v, e1, a⟩ := R.dat i _ hx
    exact ⟨v, e1, k v H .refl R a⟩
  · cases e
theorem lE_not {G : Gl0} (σ : L2.St) (H : Hp) (Q : VK) (q : lE G F (fun Γ S => (f Γ S).bind fun p => (boolD p.1).map fun b => (.bool (!b), p.2)) σ H Q) : tNotV (lE G F f) σ H Q := by
  obtain ⟨W, Γ, S, d, S', hF, R, e, k⟩ := q
  obtain ⟨p, e1, e⟩ := Option.bind_eq_some_iff.mp e
  obtain ⟨b, e2, e⟩ := Option.map_eq_some_iff.mp e
  cases e
  refine ⟨W, Γ, S, p.1, p.2, hF, R, e1, fun v H1 k1 R1 a1 => ⟨b, ?_, k _ H1 k1 R1 (.bl _)⟩⟩
  rw [boolD_of e2] at a1
  exact a1.bool_of
theorem lT_not {G : Gl0} (σ : L2.St) (H : Hp) (Q : Bool → Hp → Prop) (q : lT G F (tst fun Γ S => (f Γ S).bind fun p => (boolD p.1).map fun b => (.bool (!b), p.2)) σ H Q) : tNot (lT G F (tst f)) σ H Q := by
  obtain ⟨W, Γ, S, d, S', hF, R, e, k⟩ := q
  obtain ⟨p', e1, e⟩ := Option.bind_eq_some_iff.mp e
  obtain ⟨b', e2, e⟩ := Option.map_eq_some_iff.mp e
  cases e
  obtain ⟨p, e3, e1⟩ := Option.bind_eq_some_iff.mp e1
  obtain ⟨b, e4, e1⟩ := Option.map_eq_some_iff.mp e1
  cases e1
  have : d = !b := by simpa [boolD] using e2.symm
  subst this
  exact ⟨W, Γ, S, b, p.2, hF, R, by unfold tst; rw [e3]; simp [e4], fun H1 k1 R1 => k H1 k1 R1⟩
theorem lE_ite {G : Gl0} {c : Gm → Pl → Re} (σ : L2.St) (H : Hp) (Q : VK) (q : lE G F (fun Γ S => (c Γ S).bind fun p => (boolD p.1).bind fun t => cond t (f Γ p.2) (g Γ p.2)) σ H Q) : tIf (lT G F (tst c)) (lE G F f) (lE G F g) σ H Q := by
  obtain ⟨W, Γ, S, d, S', hF, R, e, k⟩ := q
  obtain ⟨p, e1, e⟩ := Option.bind_eq_some_iff.mp e
  obtain ⟨b, e2, e⟩ := Option.bind_eq_some_iff.mp e
  refine ⟨W, Γ, S, b, p.2, hF, R, by unfold tst; rw [e1]; simp [e2], fun H1 k1 R1 => ?_⟩
  cases b with
  | true => exact ⟨W, Γ, p.2, d, S', hF, R1, e, fun v H2 k2 R2 a2 => k v H2 (k1.trans k2) R2 a2⟩
  | false => exact ⟨W, Γ, p.2, d, S', hF, R1, e, fun v H2 k2 R2 a2 => k v H2 (k1.trans k2) R2 a2⟩
theorem lT_ite {G : Gl0} {c : Gm → Pl → Re} (σ : L2.St) (H : Hp) (Q : Bool → Hp → Prop) (q : lT G F (tst fun Γ S => (c Γ S).bind fun p => (boolD p.1).bind fun t => cond t (f Γ p.2) (g Γ p.2)) σ H Q) :
    lT G F (tst c) σ H fun b H1 => if b = true then lT G F (tst f) σ H1 Q else lT G F (tst g) σ H1 Q := by
  obtain ⟨W, Γ, S, d, S', hF, R, e, k⟩ := q
  obtain ⟨p', e1, e⟩ := Option.bind_eq_some_iff.mp e
  obtain ⟨p, e3, e1⟩ := Option.bind_eq_some_iff.mp e1
  obtain ⟨b, e2, e1⟩ := Option.bind_eq_some_iff.mp e1
  refine ⟨W, Γ, S, b, p.2, hF, R, by unfold tst; rw [e3]; simp [e2], fun H1 k1 R1 => ?_⟩
  cases b with
  | true => exact ⟨W, Γ, p.2, d, S', hF, R1, by unfold tst; rw [show f Γ p.2 = some p' from e1]; exact e, fun H2 k2 R2 => k H2 (k1.trans k2) R2⟩
  | false => exact ⟨W, Γ, p.2, d, S', hF, R1, by unfold tst; rw [show g Γ p.2 = some p' from e1]; exact e, fun H2 k2 R2 => k H2 (k1.trans k2) R2⟩
theorem pt_ite {a b c : Expr} {pos : Pos} {tc ta tb : TT} (hc : PT X c tc) (ha : PT X a ta) (hb : PT X b tb) : PT X (.IfExp c a b pos) (fun σ H Q => tc σ H fun b H1 => if b = true then ta σ H1 Q else tb σ H1 Q) := by
  refine ⟨fun pins s σ H Q I h => ?_⟩
  refine isTrue_IfExp (thn (hc.run pins s σ H _ I h) fun d s1 ⟨H1, I1, q1⟩ => ?_)
  cases d with
  | true => exact ha.run pins s1 σ H1 Q I1 q1
  | false => exact hb.run pins s1 σ H1 Q I1 q1
/-- argument lists -/
theorem lA_nil {G : Gl0} (σ : L2.St) (H : Hp) (Q : List V → Hp → Prop) (q : lA G F (fun _ S => some ([], S)) σ H Q) : tNil σ H Q := by
  obtain ⟨W, Γ, S, d, S', hF, R, e, k⟩ := q
  cases e
  exact k [] H .refl R .nil
theorem lA_cons {G : Gl0} {fs : Gm → Pl → Option (List PyData × Pl)} (σ : L2.St) (H : Hp) (Q : List V → Hp → Prop) (q : lA G F (fun Γ S => (f Γ S).bind fun p => (fs Γ p.2).bind fun q => some (p.1 :: q.1, q.2)) σ H Q) :
    tCons (lE G F f) (lA G F fs) σ H Q := by
  obtain ⟨W, Γ, S, d, S', hF, R, e, k⟩ := q
  obtain ⟨p, e1, e⟩ := Option.bind_eq_some_iff.mp e
  obtain ⟨q, e2, e⟩ := Option.bind_eq_some_iff.mp e
  cases e
  exact ⟨W, Γ, S, p.1, p.2, hF, R, e1, fun v H1 k1 R1 a1 => ⟨W, Γ, p.2, q.1, q.2, hF, R1, e2, fun vs H2 k2 R2 a2 => k _ H2 (k1.trans k2) R2 (.cons (a1.fut (k2.fut R1)) a2)⟩⟩
theorem star_cons {a : Expr} {es : List Expr} {env : Env} (h : plainE a = true) : starEach (a :: es) env = (false, eval a env) :: starEach es env := by
  cases a <;> first | rfl | cases h
theorem lE_tup {G : Gl0} {fs : Gm → Pl → Option (List PyData × Pl)} (σ : L2.St) (H : Hp) (Q : VK) (q : lE G F (fun Γ S => (fs Γ S).bind fun p => if p.1.length ≤ SL then some (.tuple p.1, p.2) else none) σ H Q) : tTup (lA G F fs) σ H Q := by
  obtain ⟨W, Γ, S, d, S', hF, R, e, k⟩ := q
  obtain ⟨p, e1, e⟩ := Option.bind_eq_some_iff.mp e
  split at e
  · rename_i z
    cases e
    refine ⟨W, Γ, S, p.1, p.2, hF, R, e1, fun vs H1 k1 R1 a1 => ⟨by rw [a1.length, sl_eq]; exact z, fun p' hp => ?_⟩⟩
    exact k _ _ (k1.trans (.same (same_upd hp))) (R1.same (same_upd hp)) (At.newT R1.tr hp a1 z)
  · cases e
theorem lE_lst {G : Gl0} {fs : Gm → Pl → Option (List PyData × Pl)} (σ : L2.St) (H : Hp) (Q : VK) (q : lE G F (fun Γ S => (fs Γ S).bind fun p => if p.1.length ≤ SL then some (.list p.1, p.2) else none) σ H Q) : tLst (lA G F fs) σ H Q := by
  obtain ⟨W, Γ, S, d, S', hF, R, e, k⟩ := q
  obtain ⟨p, e1, e⟩ := Option.bind_eq_some_iff.mp e
  split at e
  · rename_i z
    cases e
    refine ⟨W, Γ, S, p.1, p.2, hF, R, e1, fun vs H1 k1 R1 a1 => ⟨by rw [a1.length, sl_eq]; exact z, fun p' hp => ?_⟩⟩
    exact k _ _ (k1.trans (.same (same_upd hp))) (R1.same (same_upd hp)) (At.newL R1.tr hp a1 z)
  · cases e
end
end K26
namespace K26
open PySem PySem.Spec PyProof.Rows L2 PySem.W PySem.SeqAt

section
variable {X : Cx} {F : Fx} {e : Expr} {f g h : Gm → Pl → Re} {G : Gl0}
theorem Rep.read {W : Wx} {H : Hp} {σ : L2.St} {Γ : Gm} {S : Pl} (R : Rep G W H σ Γ S) {i : Nat} {d : PyData} (h : rdO Γ S i = some d) : ∃ v, σ[i]? = some (some v) ∧ AtH G W.M H v d := by
  unfold rdO at h
  obtain ⟨ow, h1, h2, h3, h4⟩ := R.own
  split at h
  · rename_i xs hx
    cases h
    obtain ⟨q1, q2, vs, q3, q4⟩ := h3 i _ hx
    exact ⟨_, q1, .lst q3 q2 q4⟩
  · rename_i kvs hx
    cases h
    obtain ⟨q1, q2, q3, xs, q4, q5, q6⟩ := h4 i _ hx
    obtain ⟨ep, q4⟩ := q4
    exact ⟨_, q1, .dic q3 q4 q5 q2 q6⟩
  · rename_i hx
    cases h
    obtain ⟨p, e1, e2⟩ := R.pol i hx
    have q := R.pool
    unfold PoolAt at q
    rw [e1] at q
    obtain ⟨vs, z1, z2⟩ := q.at_
    exact ⟨_, e2, .lst z1 (by rw [sl_eq]; exact sl_eq ▸ q.z) z2⟩
  · cases h
/-! ### comparisons -/
theorem lE_cmp {op : CmpOp} (σ : L2.St) (H : Hp) (Q : VK) (q : lE G F (fun Γ S => (f Γ S).bind fun p => (g Γ p.2).bind fun q => (cmpD op p.1 q.1).map fun d => (.bool d, q.2)) σ H Q) : tOp (rCmp G op) (lE G F f) (lE G F g) σ H Q := by
  obtain ⟨W, Γ, S, d, S', hF, R, e, k⟩ := q
  obtain ⟨p, e1, e⟩ := Option.bind_eq_some_iff.mp e
  obtain ⟨q, e2, e⟩ := Option.bind_eq_some_iff.mp e
  obtain ⟨d', e3, e⟩ := Option.map_eq_some_iff.mp e
  cases e
  exact ⟨W, Γ, S, p.1, p.2, hF, R, e1, fun v H1 k1 R1 a1 => ⟨W, Γ, p.2, q.1, q.2, hF, R1, e2, fun u H2 k2 R2 a2 => ⟨W.M, p.1, q.1, d', .of (a1.fut (k2.fut R1)), .of a2, e3, k _ H2 (k1.trans k2) R2 (.bl _)⟩⟩⟩
theorem lE_cmp2 {o1 o2 : CmpOp} (σ : L2.St) (H : Hp) (Q : VK) (q : lE G F (fun Γ S => (f Γ S).bind fun p => (g Γ p.2).bind fun q => (cmpD o1 p.1 q.1).bind fun t => match t with
    | false => some (.bool false, q.2)
    | true => (h Γ q.2).bind fun r => (cmpD o2 q.1 r.1).map fun t => (.bool t, r.2)) σ H Q) : tChain (rCmp G o1) (rCmp G o2) (lE G F f) (lE G F g) (lE G F h) σ H Q := by
  obtain ⟨W, Γ, S, d, S', hF, R, e, k⟩ := q
  obtain ⟨p, e1, e⟩ := Option.bind_eq_some_iff.mp e
  obtain ⟨q, e2, e⟩ := Option.bind_eq_some_iff.mp e
  obtain ⟨t, e3, e⟩ := Option.bind_eq_some_iff.mp e
  refine ⟨W, Γ, S, p.1, p.2, hF, R, e1, fun v H1 k1 R1 a1 => ⟨W, Γ, p.2, q.1, q.2, hF, R1, e2, fun u H2 k2 R2 a2 => ⟨W.M, p.1, q.1, t, .of (a1.fut (k2.fut R1)), .of a2, e3, t, rfl, ?_⟩⟩⟩
  cases t with
  | false =>
    cases e
    exact k _ H2 (k1.trans k2) R2 (.bl _)
  | true =>
    obtain ⟨r, e4, e⟩ := Option.bind_eq_some_iff.mp e
    obtain ⟨t', e5, e⟩ := Option.map_eq_some_iff.mp e
    cases e
    exact ⟨W, Γ, q.2, r.1, r.2, hF, R2, e4, fun w H3 k3 R3 a3 => ⟨W.M, q.1, r.1, t', .of (a2.fut (k3.fut R2)), .of a3, e5, k _ H3 ((k1.trans k2).trans k3) R3 (.bl _)⟩⟩
theorem lE_isc {ng : Bool} {c : Option Bool} (σ : L2.St) (H : Hp) (Q : VK) (q : lE G F (fun Γ S => (f Γ S).bind fun p => (isD p.1 c).map fun t => (.bool (xor ng t), p.2)) σ H Q) : tOp (rIsD G ng c) (lE G F f) (tC (cV c)) σ H Q := by
  obtain ⟨W, Γ, S, d, S', hF, R, e, k⟩ := q
  obtain ⟨p, e1, e⟩ := Option.bind_eq_some_iff.mp e
  obtain ⟨d', e3, e⟩ := Option.map_eq_some_iff.mp e
  cases e
  exact ⟨W, Γ, S, p.1, p.2, hF, R, e1, fun v H1 k1 R1 a1 => ⟨W.M, p.1, d', a1, rfl, e3, k _ H1 k1 R1 (.bl _)⟩⟩
theorem lE_ino {op : CmpOp} {i : Nat} (σ : L2.St) (H : Hp) (Q : VK) (q : lE G F (fun Γ S => (f Γ S).bind fun p => (rdO Γ p.2 i).bind fun o => (cmpD op p.1 o).map fun t => (.bool t, p.2)) σ H Q) : tOp (rCmp G op) (lE G F f) (tVar i) σ H Q := by
  obtain ⟨W, Γ, S, d, S', hF, R, e, k⟩ := q
  obtain ⟨p, e1, e⟩ := Option.bind_eq_some_iff.mp e
  obtain ⟨o, e2, e⟩ := Option.bind_eq_some_iff.mp e
  obtain ⟨d', e3, e⟩ := Option.map_eq_some_iff.mp e
  cases e
  refine ⟨W, Γ, S, p.1, p.2, hF, R, e1, fun v H1 k1 R1 a1 => ?_⟩
  obtain ⟨w, hw, aw⟩ := R1.read e2
  exact ⟨w, hw, W.M, p.1, o, d', .of a1, aw, e3, k _ H1 k1 R1 (.bl _)⟩
/-! ### and, or -/
theorem lE_and {fs : Gm → Pl → Re} (σ : L2.St) (H : Hp) (Q : VK) (q : lE G F (fun Γ S => (f Γ S).bind fun p => (boolD p.1).bind fun t => cond t (fs Γ p.2) (some (.bool false, p.2))) σ H Q) : tAndV (lE G F f) (lE G F fs) σ H Q := by
  obtain ⟨W, Γ, S, d, S', hF, R, e, k⟩ := q
  obtain ⟨p, e1, e⟩ := Option.bind_eq_some_iff.mp e
  obtain ⟨t, e2, e⟩ := Option.bind_eq_some_iff.mp e
  refine ⟨W, Γ, S, p.1, p.2, hF, R, e1, fun v H1 k1 R1 a1 => ⟨t, ?_, ?_⟩⟩
  · rw [boolD_of e2] at a1; exact a1.bool_of
  · cases t with
    | true => exact ⟨W, Γ, p.2, d, S', hF, R1, e, fun w H2 k2 R2 a2 => k w H2 (k1.trans k2) R2 a2⟩
    | false =>
      cases e
      exact k _ H1 k1 R1 (.bl _)
theorem lE_or {fs : Gm → Pl → Re} (σ : L2.St) (H : Hp) (Q : VK) (q : lE G F (fun Γ S => (f Γ S).bind fun p => (boolD p.1).bind fun t => cond t (some (.bool true, p.2)) (fs Γ p.2)) σ H Q) : tOrV (lE G F f) (lE G F fs) σ H Q := by
  obtain ⟨W, Γ, S, d, S', hF, R, e, k⟩ := q
  obtain ⟨p, e1, e⟩ := Option.bind_eq_some_iff.mp e
  obtain ⟨t, e2, e⟩ := Option.bind_eq_some_iff.mp e
  refine ⟨W, Γ, S, p.1, p.2, hF, R, e1, fun v H1 k1 R1 a1 => ⟨t, ?_, ?_⟩⟩
  · rw [boolD_of e2] at a1; exact a1.bool_of
  · cases t with
    | false => exact ⟨W, Γ, p.2, d, S', hF, R1, e, fun w H2 k2 R2 a2 => k w H2 (k1.trans k2) R2 a2⟩
    | true =>
      cases e
      exact k _ H1 k1 R1 (.bl _)
theorem lT_and {fs : Gm → Pl → Re} (σ : L2.St) (H : Hp) (Q : Bool → Hp → Prop) (q : lT G F (tst fun Γ S => (f Γ S).bind fun p => (boolD p.1).bind fun t => cond t (fs Γ p.2) (some (.bool false, p.2))) σ H Q) : tAnd (lT G F (tst f)) (lT G F (tst fs)) σ H Q := by
  obtain ⟨W, Γ, S, d, S', hF, R, e, k⟩ := q
  obtain ⟨p', e1, e⟩ := Option.bind_eq_some_iff.mp e
  obtain ⟨p, e3, e1⟩ := Option.bind_eq_some_iff.mp e1
  obtain ⟨b, e2, e1⟩ := Option.bind_eq_some_iff.mp e1
  refine ⟨W, Γ, S, b, p.2, hF, R, by unfold tst; rw [e3]; simp [e2], fun H1 k1 R1 => ?_⟩
  cases b with
  | true => exact ⟨W, Γ, p.2, d, S', hF, R1, by unfold tst; rw [show fs Γ p.2 = some p' from e1]; exact e, fun H2 k2 R2 => k H2 (k1.trans k2) R2⟩
  | false =>
    cases e1
    cases e
    exact k H1 k1 R1
theorem lT_or {fs : Gm → Pl → Re} (σ : L2.St) (H : Hp) (Q : Bool → Hp → Prop) (q : lT G F (tst fun Γ S => (f Γ S).bind fun p => (boolD p.1).bind fun t => cond t (some (.bool true, p.2)) (fs Γ p.2)) σ H Q) : tOr (lT G F (tst f)) (lT G F (tst fs)) σ H Q := by
  obtain ⟨W, Γ, S, d, S', hF, R, e, k⟩ := q
  obtain ⟨p', e1, e⟩ := Option.bind_eq_some_iff.mp e
  obtain ⟨p, e3, e1⟩ := Option.bind_eq_some_iff.mp e1
  obtain ⟨b, e2, e1⟩ := Option.bind_eq_some_iff.mp e1
  refine ⟨W, Γ, S, b, p.2, hF, R, by unfold tst; rw [e3]; simp [e2], fun H1 k1 R1 => ?_⟩
  cases b with
  | false => exact ⟨W, Γ, p.2, d, S', hF, R1, by unfold tst; rw [show fs Γ p.2 = some p' from e1]; exact e, fun H2 k2 R2 => k H2 (k1.trans k2) R2⟩
  | true =>
    cases e1
    cases e
    exact k H1 k1 R1
/-! ### subscripts -/
theorem lE_ix (σ : L2.St) (H : Hp) (Q : VK) (q : lE G F (fun Γ S => (f Γ S).bind fun p => (g Γ p.2).bind fun q => (ixD p.1 q.1).map fun d => (d, q.2)) σ H Q) : tOp (rIxD G) (lE G F f) (lE G F g) σ H Q := by
  obtain ⟨W, Γ, S, d, S', hF, R, e, k⟩ := q
  obtain ⟨p, e1, e⟩ := Option.bind_eq_some_iff.mp e
  obtain ⟨q, e2, e⟩ := Option.bind_eq_some_iff.mp e
  obtain ⟨d', e3, e⟩ := Option.map_eq_some_iff.mp e
  cases e
  exact ⟨W, Γ, S, p.1, p.2, hF, R, e1, fun v H1 k1 R1 a1 => ⟨W, Γ, p.2, q.1, q.2, hF, R1, e2, fun u H2 k2 R2 a2 => ⟨W.M, p.1, q.1, d, .of (a1.fut (k2.fut R1)), a2, e3, fun w a3 => k w H2 (k1.trans k2) R2 a3⟩⟩⟩
theorem lE_ixo {i : Nat} (σ : L2.St) (H : Hp) (Q : VK) (q : lE G F (fun Γ S => (g Γ S).bind fun q => (rdO Γ q.2 i).bind fun o => (ixD o q.1).map fun d => (d, q.2)) σ H Q) : tOp (rIxD G) (tVar i) (lE G F g) σ H Q := by
  obtain ⟨W, Γ, S, d, S', hF, R, e, k⟩ := q
  obtain ⟨p, e1, e⟩ := Option.bind_eq_some_iff.mp e
  obtain ⟨o, e2, e⟩ := Option.bind_eq_some_iff.mp e
  obtain ⟨d', e3, e⟩ := Option.map_eq_some_iff.mp e
  cases e
  have ex : ∃ v, σ[i]? = some (some v) := by
    unfold rdO at e2
    obtain ⟨ow, h1, h2, h3, h4⟩ := R.own
    split at e2
    · rename_i xs hx; exact ⟨_, (h3 i _ hx).1⟩
    · rename_i xs hx; exact ⟨_, (h4 i _ hx).1⟩
    · rename_i hx; obtain ⟨p, _, q⟩ := R.pol i hx; exact ⟨_, q⟩
    · cases e2
  obtain ⟨v, hv⟩ := ex
  refine ⟨v, hv, W, Γ, S, p.1, p.2, hF, R, e1, fun u H1 k1 R1 a1 => ?_⟩
  obtain ⟨w, hw, aw⟩ := R1.read e2
  rw [hv] at hw
  cases hw
  exact ⟨W.M, o, p.1, d, aw, a1, e3, fun w a3 => k w H1 k1 R1 a3⟩
theorem plain_ix {b : Expr} (h : plainE b = true) : PlainIx b := by
  intro o i
  cases b <;> first | rfl | cases h
def lO (G : Gl0) (F : Fx) (f : Gm → Pl → Option (Option Int × Pl)) : TO := fun σ H Q => ∃ W Γ S d S', W.F = F ∧ Rep G W H σ Γ S ∧ f Γ S = some (d, S') ∧ ∀ H', Keep W H H' → Rep G W H' σ Γ S' → Q d H'
theorem poW {eo : Option Expr} {t t' : TO} (h : PO X eo t) (w : ∀ σ H Q, t' σ H Q → t σ H Q) : PO X eo t' := ⟨fun pins s σ H Q I q => h.run pins s σ H Q I (w σ H Q q)⟩
theorem lO_no (σ : L2.St) (H : Hp) (Q : Option Int → Hp → Prop) (q : lO G F (fun _ S => some (none, S)) σ H Q) : tNoPart σ H Q := by
  obtain ⟨W, Γ, S, d, S', hF, R, e, k⟩ := q
  cases e
  exact k H .refl R
theorem lO_so (σ : L2.St) (H : Hp) (Q : Option Int → Hp → Prop) (q : lO G F (fun Γ S => (f Γ S).bind fun p => (intD p.1).map fun i => (some i, p.2)) σ H Q) : tPart (lE G F f) σ H Q := by
  obtain ⟨W, Γ, S, d, S', hF, R, e, k⟩ := q
  obtain ⟨p, e1, e⟩ := Option.bind_eq_some_iff.mp e
  obtain ⟨i, e2, e⟩ := Option.map_eq_some_iff.mp e
  cases e
  refine ⟨W, Γ, S, p.1, p.2, hF, R, e1, fun v H1 k1 R1 a1 => ⟨i, ?_, k H1 k1 R1⟩⟩
  cases h : p.1 <;> rw [h] at e2 <;> simp [intD] at e2
  subst e2
  rw [h] at a1
  exact a1.int_of
theorem lE_sl {lo hi : Gm → Pl → Option (Option Int × Pl)} (σ : L2.St) (H : Hp) (Q : VK) (q : lE G F (fun Γ S => (f Γ S).bind fun p => (lo Γ p.2).bind fun l => (hi Γ l.2).bind fun h => (slD p.1 l.1 h.1).map fun d => (d, h.2)) σ H Q) :
    tSl (rSlD G) (lE G F f) (lO G F lo) (lO G F hi) σ H Q := by
  obtain ⟨W, Γ, S, d, S', hF, R, e, k⟩ := q
  obtain ⟨p, e1, e⟩ := Option.bind_eq_some_iff.mp e
  obtain ⟨l, e2, e⟩ := Option.bind_eq_some_iff.mp e
  obtain ⟨u, e3, e⟩ := Option.bind_eq_some_iff.mp e
  obtain ⟨d', e4, e⟩ := Option.map_eq_some_iff.mp e
  cases e
  exact ⟨W, Γ, S, p.1, p.2, hF, R, e1, fun v H1 k1 R1 a1 => ⟨W, Γ, p.2, l.1, l.2, hF, R1, e2, fun H2 k2 R2 => ⟨W, Γ, l.2, u.1, u.2, hF, R2, e3, fun H3 k3 R3 =>
    ⟨W.M, p.1, d, R3.tr, (a1.fut (k2.fut R1)).fut (k3.fut R2), e4, fun w H4 s4 a4 => k w H4 (((k1.trans k2).trans k3).trans (.same s4)) (R3.same s4) a4⟩⟩⟩⟩
/-! ### built-ins -/
theorem lE_bi {b : Bi} (σ : L2.St) (H : Hp) (Q : VK) (q : lE G F (un f (biD b)) σ H Q) : tCB (rBi G b) (tCons (lE G F f) tNil) σ H Q := by
  refine lE_un (r := fun x H Q => rBi G b [x] H Q) (fun x H Q z => ?_) σ H Q q
  obtain ⟨M, a, d, tr, ha, e, k⟩ := z
  exact ⟨M, x, a, d, rfl, tr, .of ha, e, k⟩
theorem lE_bio {b : Bi} {i : Nat} (σ : L2.St) (H : Hp) (Q : VK) (q : lE G F (fun Γ S => (rdO Γ S i).bind fun o => (biD b o).map fun d => (d, S)) σ H Q) : tCB (rBi G b) (tCons (tVar i) tNil) σ H Q := by
  obtain ⟨W, Γ, S, d, S', hF, R, e, k⟩ := q
  obtain ⟨o, e1, e⟩ := Option.bind_eq_some_iff.mp e
  obtain ⟨d', e2, e⟩ := Option.map_eq_some_iff.mp e
  cases e
  obtain ⟨w, hw, aw⟩ := R.read e1
  exact ⟨w, hw, W.M, w, o, d, rfl, R.tr, aw, e2, fun w' H' s' a' => k w' H' (.same s') (R.same s') a'⟩
theorem lE_bj {b : Bj} (σ : L2.St) (H : Hp) (Q : VK) (q : lE G F (bi2 f g (bjD b)) σ H Q) : tCB (rBj G b) (tCons (lE G F f) (tCons (lE G F g) tNil)) σ H Q := by
  refine lE_b2 (r := fun x y H Q => rBj G b [x, y] H Q) (fun x y H Q z => ?_) σ H Q q
  obtain ⟨M, a, b', d, tr, ha, hb, e, k⟩ := z
  exact ⟨M, x, y, a, b', d, rfl, tr, ha, hb, e, k⟩
theorem lE_dic (σ : L2.St) (H : Hp) (Q : VK) (q : lE G F (un f dicD) σ H Q) : tCB (rDic G) (tCons (lE G F f) tNil) σ H Q := by
  refine lE_un (r := fun x H Q => rDic G [x] H Q) (fun x H Q z => ?_) σ H Q q
  obtain ⟨M, a, d, tr, ha, e, k⟩ := z
  exact ⟨M, x, a, d, rfl, tr, ha, e, k⟩
/-- what an expression's context knows -/
structure Bx (X : Cx) : Prop where
  calm : X.calm = true
  gd : X.A.guards = some []
  room : X.A.units + 200 < cLine
  blt : ∀ x ∈ (["len", "abs", "int", "max", "min", "list", "tuple", "all", "sorted", "str", "repr", "divmod", "isinstance", "dict", "set", "range", "enumerate", "zip"] : List Str), X.mg x = none
theorem pa1 {a : Expr} {ta : TE} (ha : PE X a ta) (h : plainE a = true) : PA X [a] (tCons ta tNil) := pa_cons ha pa_nil (star_cons h)
theorem pa2 {a b : Expr} {ta tb : TE} (ha : PE X a ta) (hb : PE X b tb) (h : plainE a = true) (h' : plainE b = true) : PA X [a, b] (tCons ta (tCons tb tNil)) := pa_cons ha (pa1 hb h') (star_cons h)
theorem bi_pe (B : Bx X) (b : Bi) {a : Expr} {t : TE} {p q : Pos} (hg : Gl X (bnm b)) (ha : PE X a t) (h : plainE a = true) : PE X (.Call (.Name (bnm b) p) [a] [] q) (tCB (rBi (gl X) b) (tCons t tNil)) := by
  have pa := pa1 ha h
  have st := star_cons (es := []) (env := X.env) h
  cases b with
  | len => exact pe_callB bi_len hg (B.blt _ (by decide)) boot_len pa (by decide) (by decide) st rfl
  | abs => exact pe_callB bi_abs hg (B.blt _ (by decide)) boot_abs pa (by decide) (by decide) st rfl
  | int => exact pe_callTy bi_int hg (B.blt _ (by decide)) PyProof.Rows.boot_int pa (by decide) (by decide) st rfl
  | mxq => exact pe_callB (bi_mxq B.calm B.room) hg (B.blt _ (by decide)) boot_max pa (by decide) (by decide) st rfl
  | mnq => exact pe_callB (bi_mnq B.calm B.room) hg (B.blt _ (by decide)) boot_min pa (by decide) (by decide) st rfl
  | list => exact pe_callTy (bi_list B.calm) hg (B.blt _ (by decide)) PyProof.Rows.boot_list pa (by decide) (by decide) st rfl
  | tuple => exact pe_callTy bi_tuple hg (B.blt _ (by decide)) PyProof.Rows.boot_tuple pa (by decide) (by decide) st rfl
  | all => exact pe_callB (bi_all B.calm) hg (B.blt _ (by decide)) boot_all pa (by decide) (by decide) st rfl
  | sorted => exact pe_callB (bi_sorted B.room) hg (B.blt _ (by decide)) PyProof.Rows.boot_sorted pa (by decide) (by decide) st rfl
  | str => exact pe_callTy (bi_str B.gd B.room) hg (B.blt _ (by decide)) PyProof.Rows.boot_str pa (by decide) (by decide) st rfl
  | repr => exact pe_callB (bi_repr B.gd B.room) hg (B.blt _ (by decide)) PyProof.Rows.boot_repr pa (by decide) (by decide) st rfl
theorem bj_pe (B : Bx X) (b : Bj) {a a' : Expr} {t t' : TE} {p q : Pos} (hg : Gl X (bjm b)) (ha : PE X a t) (ha' : PE X a' t') (h : plainE a = true) (h' : plainE a' = true) : PE X (.Call (.Name (bjm b) p) [a, a'] [] q) (tCB (rBj (gl X) b) (tCons t (tCons t' tNil))) := by
  have pa := pa2 ha ha' h h'
  have st := star_cons (es := [a']) (env := X.env) h
  have s2 : (backTo q (starEach [a'] X.env)).any (·.1) = false := by rw [star_cons h']; rfl
  cases b with
  | mx => exact pe_callB (bj_all B.calm .mx) hg (B.blt _ (by decide)) boot_max pa (by decide) (by decide) st s2
  | mn => exact pe_callB (bj_all B.calm .mn) hg (B.blt _ (by decide)) boot_min pa (by decide) (by decide) st s2
  | dm => exact pe_callB (bj_all B.calm .dm) hg (B.blt _ (by decide)) PyProof.Rows.boot_divmod pa (by decide) (by decide) st s2
theorem dic_pe (B : Bx X) {a : Expr} {t : TE} {p q : Pos} (hg : Gl X "dict") (ha : PE X a t) (h : plainE a = true) : PE X (.Call (.Name "dict" p) [a] [] q) (tCB (rDic (gl X)) (tCons t tNil)) :=
  pe_callTy (bi_dict B.calm B.room) hg (B.blt _ (by decide)) PyProof.Rows.boot_dict (pa1 ha h) (by decide) (by decide) (star_cons h) rfl
end
end K26
namespace K26
open PySem PySem.Spec PyProof.Rows L2 PySem.W PySem.SeqAt

/-- a new set -/
abbrev seO (w : World) : Obj := { cls := .type "set", dict := none, data := .set #[] 0 (.fresh 0 0 (!w.params.followText "set-order")) }
section
variable {P : Program} {w : World} {A : Around} {E : Value → Shared → Prop} {s : Shared}
set_option maxHeartbeats 3200000 in
/-- set(xs) of a list of ints, with what its table keeps -/
theorem set_of_list {l : Addr} {its : Array Value} (ms : List Int) {Q : Value → Shared → Prop} (hh : A.handled = none) (hl : s.heap.IsList l its) (hit : IntsAre its.toList ms) (hb : ms.length + 1 < scanBound)
    (hQ : ∀ (h' : Heap) (tk n : Nat), SetR w h' s.heap.objs.size (fun j => decide (j ∈ ms)) n → n ≤ ms.length → (∀ b o, s.heap.get? b = some o → h'.get? b = some o) → Q (.ref s.heap.objs.size) { s with heap := h', toks := tk }) :
    wpAny (model P w) A (call (.type "set") [.ref l]) Q E s := by
  have sz : its.size = ms.length := (Array.length_toList (xs := its)).symm.trans (IntsAre.length hit)
  obtain ⟨_, _, mro⟩ := F.called_set.mro
  have made := F.called_set.made; have sub := F.called_set.sub
  refine wpAny_call (codeAny_of_tree ?_)
  show wpAny (model P w) _ (callAny (.type "set") _) _ _ s
  refine wpAny_pure ⟨Code.quiet_builtin _ (by decide +kernel), codeAny_builtin F.entry_type_call ?_⟩
  rw [Around.under_plain (weight_type_call_type "set" [Value.ref l] []) rfl]
  have nt := F.called_set.notType; have cc := F.called_set.canCreate; have ct := F.typeCall_set_1 (Value.ref l)
  repeat (any_goals (first | assumption | wp_step))

  refine codeAny_mono (code_set_led1 (.ref l) (E := E) (Q₁ := fun ob t => ob = .ref s.heap.objs.size ∧ t = { s with heap := s.heap.push (seO w) }) ⟨rfl, rfl⟩) fun r t hr => ?_
  match r, hr with
  | .error _, hr => exact hr
  | .ok (.ret ob), hr =>
    obtain ⟨rfl, rfl⟩ := hr
    have gS : (s.heap.push (seO w)).get? s.heap.objs.size = some (seO w) := Heap.get?_push_size _ rfl
    have tS : Shared.TypeIs { s with heap := s.heap.push (seO w) } (.ref s.heap.objs.size) "set" := ⟨_, gS, rfl⟩
    have li := F.called_set.init.lookup; have bi := F.called_set.init.bind (Value.ref s.heap.objs.size)
    repeat (any_goals (first | assumption | wp_step))

    refine codeAny_mono (codeAny_call_builtin (R := wants (fun v t => v = .none ∧ ∃ h' tk n, t = { s with heap := h', toks := tk } ∧ SetR w h' s.heap.objs.size (fun j => decide (j ∈ ms)) n ∧ n ≤ ms.length ∧
      (∀ b o, s.heap.get? b = some o → h'.get? b = some o)) E) F.called_set.init.plain F.entry_set_init (check_set_init_1 tS ?_)) fun r2 t2 hr2 => ?_
    · obtain ⟨⟨oc, od, odt, osl⟩, ho, hc, n0, hd⟩ := hl
      simp only at hc hd
      subst hc; subst hd
      have gl0 : (s.heap.push (seO w)).get? l = some { cls := .type "list", dict := od, data := .seq its n0, slots := osl } := Heap.get?_push_of_some _ ho
      have s1 := F.sub_list_set; have s2 := F.sub_list_frozenset
      have nd : (Value.type "list" == Value.type "dict") = false := by decide
      have gl1 : (s.heap.push (seO w)).IsList l its := ⟨_, gl0, rfl, n0, rfl⟩
      unfold Builtin.«set.__init__» noKeywords Builtin.Frozenset.updateFrom
      generalize hPI : pyIter = PI
      wp_walk
      subst hPI
      refine wpAny_pyIter_list gl1 ?_
      refine wpAny_bind (wpAny_runValue ?_)
      have lt : l < s.heap.objs.size := Heap.lt_size ho
      have h3 : A.in1.in1.in1.handled = none := by simp [hh]
      have gz : (s.heap.push (seO w)).objs.size = s.heap.objs.size + 1 := Heap.size_push ..
      have ne1 : l ≠ (s.heap.push (seO w)).objs.size := Nat.ne_of_lt (by rw [gz]; exact Nat.lt_succ_of_lt lt)
      have nin : s.heap.objs.size ∉ [(s.heap.push (seO w)).objs.size, l] := by
        simp only [List.mem_cons, List.not_mem_nil, or_false, not_or]
        exact ⟨Nat.ne_of_lt (by rw [gz]; exact Nat.lt_succ_self _), Nat.ne_of_gt lt⟩
      have val : ∀ (i : Nat) (v : Value), its[i]? = some v → ∃ k t, ms[i]? = some k ∧ v = .int k t := fun i v hv => by
        have hi : i < ms.length := sz ▸ (Array.getElem?_eq_some_iff.mp hv).1
        obtain ⟨t, e⟩ := PyProof.Rows.IntsAre.int_at hit i v ((Array.getElem?_toList ..).trans hv)
        exact ⟨ms[i], t, List.getElem?_eq_getElem hi, by rw [e, List.getD_eq_getElem?_getD, List.getElem?_eq_getElem hi] <;> rfl⟩
      have st0 : (((s.heap.push (seO w)).push { cls := .type "list_iterator", data := .fields #[.ref l, .int 0 0] }).IsListIter (s.heap.push (seO w)).objs.size l 0) := ⟨_, Heap.get?_push_size _ rfl, rfl, rfl⟩
      refine set_update_ints ((Walks.list h3 _ l ne1 its).toS) s.heap.objs.size nin ms sz hb val (its.size - 0) 0 _ (by omega) (Nat.zero_le _) ⟨st0, gl1.push _⟩ ⟨0, Nat.le_refl 0, setR_new_at (Heap.get?_push_of_some _ gS)⟩ ?_
      rintro ⟨h', g2, d', tk', os'⟩ n hm hn hS
      obtain rfl : g2 = s.gens := hm.gens
      obtain rfl : d' = s.drawn := hm.drawn
      obtain rfl : os' = s.os := hm.os
      show wpAny _ _ _ _ _ _
      refine wpAny_pure ?_
      show wpAny _ _ (ret Value.none) _ _ _
      refine wpAny_pure ⟨rfl, h', tk', n, rfl, hS, by omega, fun b o e => ?_⟩
      have b0 := Heap.lt_size e
      exact hm.heap b o (by simp only [List.mem_cons, List.not_mem_nil, or_false, not_or]; exact ⟨Nat.ne_of_lt b0, Nat.ne_of_lt (by rw [gz]; exact Nat.lt_succ_of_lt b0)⟩) (Heap.get?_push_of_some _ (Heap.get?_push_of_some _ e))
    · match r2, hr2 with
      | .error _, hr2 => exact hr2
      | .ok (.ret v), hr2 =>
        obtain ⟨rfl, h', tk, n, rfl, q1, q2, q3⟩ := hr2
        repeat (any_goals (first | assumption | wp_step))
        exact hQ _ _ _ q1 q2 q3
      | .ok .next, hr2 => exact hr2.elim
      | .ok .brk, hr2 => exact hr2.elim
      | .ok .cont, hr2 => exact hr2.elim
  | .ok .next, hr => exact hr.elim
  | .ok .brk, hr => exact hr.elim
  | .ok .cont, hr => exact hr.elim
end
end K26
set_option maxHeartbeats 4000000
namespace K26
open PySem PySem.Spec PyProof.Rows L2 PySem.W PySem.SeqAt

section
variable {X : Cx} {F : Fx} {e : Expr} {f g h : Gm → Pl → Re} {G : Gl0}
/-! ### isinstance -/
def rIsa (G : Gl0) (t : Ty) : List V → Hp → VK → Prop := fun xs H Q => ∃ M x a, xs = [x, .ty (tyS t)] ∧ At G M H x a ∧ Q (.bl (isaD a t)) H
theorem isa_cr (t : Ty) : CallR X (.builtin "isinstance") (rIsa (gl X) t) := by
  intro pins s σ H xs us Q I r ⟨M, x, a, ex, ha, q⟩
  subst ex
  obtain ⟨u1, u2, rfl, r1, r2⟩ := Vals.two r
  cases r2
  exact isa_call t I ha r1 fun tk => ⟨.bl _, H, I.tok tk, rfl, q⟩
theorem boot_ty : ∀ t : Ty, bootBuiltins (tnm t) = some (.type (tyS t))
  | .int => PyProof.Rows.boot_int
  | .bool => by decide +kernel
  | .tuple => PyProof.Rows.boot_tuple
  | .str => PyProof.Rows.boot_str
theorem ty_pe {t : Ty} {p : Pos} (hg : Gl X (tnm t)) (hm : X.mg (tnm t) = none) : PE X (.Name (tnm t) p) (tC (.ty (tyS t))) :=
  pe_bltn hg hm (boot_ty t) rfl (by cases t <;> decide) (by cases t <;> decide)
theorem isa_pe (B : Bx X) (t : Ty) {a : Expr} {ta : TE} {p q r : Pos} (hg : Gl X "isinstance") (hgt : Gl X (tnm t)) (hm : X.mg (tnm t) = none) (ha : PE X a ta) (h : plainE a = true) :
    PE X (.Call (.Name "isinstance" p) [a, .Name (tnm t) r] [] q) (tCB (rIsa (gl X) t) (tCons ta (tCons (tC (.ty (tyS t))) tNil))) :=
  pe_callB (isa_cr t) hg (B.blt _ (by decide)) PyProof.Rows.boot_isinstance (pa2 ha (ty_pe hgt hm) h rfl) (by decide) (by decide) (star_cons h) rfl
theorem lE_isa {t : Ty} (σ : L2.St) (H : Hp) (Q : VK) (q : lE G F (fun Γ S => (f Γ S).bind fun p => some (.bool (isaD p.1 t), p.2)) σ H Q) : tCB (rIsa G t) (tCons (lE G F f) (tCons (tC (.ty (tyS t))) tNil)) σ H Q := by
  obtain ⟨W, Γ, S, d, S', hF, R, e, k⟩ := q
  obtain ⟨p, e1, e⟩ := Option.bind_eq_some_iff.mp e
  cases e
  exact ⟨W, Γ, S, p.1, p.2, hF, R, e1, fun v H1 k1 R1 a1 => ⟨W.M, v, p.1, rfl, a1, k _ H1 k1 R1 (.bl _)⟩⟩
/-! ### sorted(set(..)) -/
def rSetL (G : Gl0) (w : World) : List V → Hp → VK → Prop := fun xs H Q => ∃ M x ds ns, xs = [x] ∧ At G M H x (.list ds) ∧ intsD ds = some ns ∧ ds.length < 64 ∧
  ∀ p c, H p = none → c ≤ ns.length → Q (.ref p) (upd H p (SetO w p (fun j => decide (j ∈ ns)) c))
theorem set_cr (hc : X.calm = true) : CallR X (.type "set") (rSetL (gl X) X.w) := by
  intro pins s σ H xs us Q I r ⟨M, x, ds, ns, ex, ha, hi, hl, q⟩
  subst ex
  obtain ⟨p, vs, rfl, hH, t, z⟩ := ha.list
  have ev := ints_seq t hi (K := X.K)
  subst ev
  rw [Vals.ref1 r]
  obtain ⟨its, rv, pl, _⟩ := I.list (.of hH)
  have el : ns.length = ds.length := by have := t.length; rw [List.length_map] at this; exact this
  refine set_of_list ns (I.ok.hd hc) pl.isList (by simpa using rv.ints) (by rw [el]; exact Nat.lt_of_lt_of_le (Nat.succ_lt_succ hl) (by decide)) fun h' tk n R hn k => ?_
  have hf : H s.heap.objs.size = none := I.hok.fresh (Nat.le_refl _)
  exact ⟨.ref s.heap.objs.size, upd H s.heap.objs.size (SetO X.w s.heap.objs.size (fun j => decide (j ∈ ns)) n), I.laid (t' := tk) k (Nat.le_refl _) (setO_new R), rfl, q _ _ hf hn⟩
theorem strict_ext : ∀ {xs ys : List Int}, xs.Pairwise (· < ·) → ys.Pairwise (· < ·) → (∀ k, k ∈ xs ↔ k ∈ ys) → xs = ys
  | [], [], _, _, _ => rfl
  | [], y :: ys, _, _, h => absurd ((h y).mpr List.mem_cons_self) (by simp)
  | x :: xs, [], _, _, h => absurd ((h x).mp List.mem_cons_self) (by simp)
  | x :: xs, y :: ys, hx, hy, h => by
    obtain ⟨x1, x2⟩ := List.pairwise_cons.mp hx
    obtain ⟨y1, y2⟩ := List.pairwise_cons.mp hy
    have e : x = y := by
      have a := (h x).mp List.mem_cons_self
      have b := (h y).mpr List.mem_cons_self
      rcases List.mem_cons.mp a with a | a
      · exact a
      · rcases List.mem_cons.mp b with b | b
        · exact b.symm
        · have := y1 x a
          have := x1 y b
          omega
    subst e
    congr 1
    refine strict_ext x2 y2 fun k => ⟨fun hk => ?_, fun hk => ?_⟩
    · rcases List.mem_cons.mp ((h k).mp (List.mem_cons_of_mem _ hk)) with z | z
      · have := x1 k hk; omega
      · exact z
    · rcases List.mem_cons.mp ((h k).mpr (List.mem_cons_of_mem _ hk)) with z | z
      · have := y1 k hk; omega
      · exact z
theorem uniqI_mem (ns : List Int) (k : Int) : k ∈ uniqI ns ↔ k ∈ ns := by
  unfold uniqI
  rw [List.mem_mergeSort, List.mem_eraseDups]
theorem nodup_eraseDups : ∀ (n : Nat) (ns : List Int), ns.length ≤ n → ns.eraseDups.Nodup
  | _, [], _ => by simp
  | 0, _ :: _, h => absurd h (by simp)
  | n + 1, a :: ns, h => by
    rw [List.eraseDups_cons]
    refine List.nodup_cons.mpr ⟨fun hm => ?_, nodup_eraseDups n _ (Nat.le_trans (List.length_filter_le _ _) (by simpa using h))⟩
    rw [List.mem_eraseDups] at hm
    have := (List.mem_filter.mp hm).2
    simp at this
theorem uniqI_strict (ns : List Int) : (uniqI ns).Pairwise (· < ·) := by
  have h1 : (uniqI ns).Pairwise (fun a b => decide (a ≤ b) = true) := List.pairwise_mergeSort (fun a b c h1 h2 => by simp at h1 h2 ⊢; omega) (fun a b => by simp; omega) _
  have h2 : (uniqI ns).Nodup := (List.mergeSort_perm _ _).symm.nodup (nodup_eraseDups _ ns (Nat.le_refl _))
  exact (h1.and h2).imp fun {a b} ⟨h1, h2⟩ => by simp at h1; omega
theorem sset_pe (B : Bx X) {a : Expr} {ta : TE} {p q r r' : Pos} (hg : Gl X "sorted") (hg2 : Gl X "set") (ha : PE X a ta) (h : plainE a = true) :
    PE X (.Call (.Name "sorted" p) [.Call (.Name "set" r) [a] [] r'] [] q) (tCB (rSortedSet X.w) (tCons (tCB (rSetL (gl X) X.w) (tCons ta tNil)) tNil)) :=
  pe_callB (cr_sortedSet B.calm) hg (B.blt _ (by decide)) PyProof.Rows.boot_sorted (pa_cons (pe_callTy (set_cr B.calm) hg2 (B.blt _ (by decide)) PyProof.Rows.boot_set (pa1 ha h) (by decide) (by decide) (star_cons h) rfl) pa_nil) (by decide) (by decide) rfl rfl
theorem lE_sset {w : World} (σ : L2.St) (H : Hp) (Q : VK) (q : lE G F (un f ssetD) σ H Q) : tCB (rSortedSet w) (tCons (tCB (rSetL G w) (tCons (lE G F f) tNil)) tNil) σ H Q := by
  refine lE_un (r := fun x H Q => rSetL G w [x] H fun y H1 => rSortedSet w [y] H1 Q) (fun x H Q z => ?_) σ H Q q
  obtain ⟨M, a, d, tr, ha, e, k⟩ := z
  unfold ssetD at e
  split at e
  · rename_i xs
    split at e
    · rename_i hl
      obtain ⟨ns, e1, rfl⟩ := Option.map_eq_some_iff.mp e
      refine ⟨M, x, xs, ns, rfl, ha, e1, hl, fun p c hp hc => ⟨p, _, c, rfl, upd_same, ?_, fun ms p' h1 h2 h3 hp' => ?_⟩⟩
      · have : ns.length = xs.length := by rw [intsD_of e1, List.length_map]
        omega
      · have em : ms = uniqI ns := strict_ext h1 (uniqI_strict ns) fun k => by rw [h2 k, uniqI_mem]; simp
        subst em
        have s1 : Same H (upd H p (SetO w p (fun j => decide (j ∈ ns)) c)) := same_upd hp
        have s2 := same_upd (o := .lst ((uniqI ns).map V.int)) hp'
        refine k _ _ (fun b o e => s2 b o (s1 b o e)) ?_
        have tr1 : Trk M (upd H p (SetO w p (fun j => decide (j ∈ ns)) c)) := fun b m => let ⟨o, eo⟩ := tr b m; ⟨o, s1 b o eo⟩
        refine At.newL tr1 hp' (AtL.ints _) ?_
        rw [List.length_map, h3]
        have : ns.length = xs.length := by rw [intsD_of e1, List.length_map]
        show c ≤ 16777216
        omega
    · cases e
  · cases e
/-! ### list(range(..)) -/
def tLrg (te : L2.St → Hp → (Int → Int → Hp → Prop) → Prop) : TE := fun σ H Q => te σ H fun a b H1 => (RgOk a b ∨ b ≤ a) ∧ ∀ q, H1 q = none → Q (.ref q) (upd H1 q (.lst (rgV a b)))
theorem lrg_pe (B : Bx X) {a : Expr} {te : L2.St → Hp → (Int → Int → Hp → Prop) → Prop} {p q : Pos} (hg : Gl X "list") (he : PRg X a te) (h : plainE a = true) : PE X (.Call (.Name "list" p) [a] [] q) (tLrg te) := by
  refine ⟨fun pins s σ H Q I hq => ?_⟩
  have na := star_cons (es := []) (env := X.env) h
  refine Call_ (ld_blt I hg (B.blt _ (by decide)) PyProof.Rows.boot_list (PyProof.Rows.callWith_type1 (PyProof.Rows.args_cons (thn (he pins s σ H _ I hq) fun x s1 ⟨r, i, j, t, u, v, H1, ex, hr, I1, ok, q⟩ => PyProof.Rows.args_nil ?_) na) na))
  subst ex
  have hf := I1.hok.fresh (Nat.le_refl s1.heap.objs.size)
  by_cases hs : Builtin.Range.small i j 1 = true
  · have hn : (j - i).toNat ≤ 2 ^ 24 := by
      rcases ok with ok | ok
      · exact ok.2.2.2.2
      · omega
    refine call_list_range (n := (j - i).toNat) (I1.ok.hd B.calm) hr hs (rangeSize_nat i j) hn fun h' tk acc c' hk e' hi => ?_
    refine ⟨.ref s1.heap.objs.size, upd H1 s1.heap.objs.size (.lst (rgV i j)), I1.laid hk (Nat.le_refl _) (show ObjOk X.prog X.w _ _ _ (.lst _) from ⟨by rw [rgV_length, sizeLine_eq]; omega, acc.toList, c', vals_rg hi, by rw [Array.toArray_toList]; exact e'⟩), rfl, q _ hf⟩
  · have hle : j ≤ i := by
      rcases ok with ⟨b1, b2, b3, b4, _⟩ | ok
      · exact absurd (small_one b1 b2 b3 b4) hs
      · exact ok
    have e0 : rgV i j = [] := by unfold rgV; rw [show (j - i).toNat = 0 by omega]; rfl
    refine list_long (I1.ok.hd B.calm) hr (by simpa using hs) (by rw [rangeSize_nat, show (j - i).toNat = 0 by omega]) fun h' tk c' hk e' => ?_
    refine ⟨.ref s1.heap.objs.size, upd H1 s1.heap.objs.size (.lst (rgV i j)), I1.laid hk (Nat.le_refl _) (show ObjOk X.prog X.w _ _ _ (.lst _) from ⟨by rw [e0]; exact Nat.zero_le _, [], c', by rw [e0]; exact .nil, e'⟩), rfl, q _ hf⟩
theorem at_rgV {M : Addr → Prop} {H : Hp} (i j : Int) : AtL G M H (rgV i j) ((List.range (j - i).toNat).map fun (k : Nat) => PyData.int (i + k)) := by
  unfold rgV
  have := AtL.ints (G := G) (M := M) (H := H) ((List.range (j - i).toNat).map fun (k : Nat) => i + (k : Int))
  rw [List.map_map, List.map_map] at this
  exact this
theorem lE_lrg1 (σ : L2.St) (H : Hp) (Q : VK) (q : lE G F (fun Γ S => (f Γ S).bind fun p => (lrgD [p.1]).map fun d => (.list d, p.2)) σ H Q) : tLrg (tRg1 (lE G F f)) σ H Q := by
  obtain ⟨W, Γ, S, d, S', hF, R, e, k⟩ := q
  obtain ⟨p, e1, e⟩ := Option.bind_eq_some_iff.mp e
  obtain ⟨ds, e2, e⟩ := Option.map_eq_some_iff.mp e
  cases e
  refine ⟨W, Γ, S, p.1, p.2, hF, R, e1, fun v H1 k1 R1 a1 => ?_⟩
  obtain ⟨d0, S0⟩ := p
  unfold lrgD at e2
  split at e2
  · rename_i h; simp at h
  · unfold rgD at e2
    split at e2
    · rename_i j hj
      simp only [List.cons.injEq, and_true] at hj
      subst hj
      split at e2
      · rename_i z
        cases e2
        refine ⟨j, a1.int_of, ?_, fun q hq => k _ _ (k1.trans (.same (same_upd hq))) (R1.same (same_upd hq)) ?_⟩
        · by_cases hj : j ≤ 0
          · exact .inr hj
          · exact .inl (RgOk.of_le (by omega) z.2 (by omega) (by omega))
        · have := at_rgV (G := G) (M := W.M) (H := H1) 0 j
          simp only [Int.sub_zero, Int.zero_add] at this
          refine At.newL R1.tr hq this ?_
          rw [List.length_map, List.length_range]
          show j.toNat ≤ 16777216
          omega
      · cases e2
    · rename_i h; simp at h
    · cases e2
theorem lE_lrg2 (σ : L2.St) (H : Hp) (Q : VK) (q : lE G F (fun Γ S => (f Γ S).bind fun p => (g Γ p.2).bind fun r => (lrgD [p.1, r.1]).map fun d => (.list d, r.2)) σ H Q) : tLrg (tRg2 (lE G F f) (lE G F g)) σ H Q := by
  obtain ⟨W, Γ, S, d, S', hF, R, e, k⟩ := q
  obtain ⟨p, e1, e⟩ := Option.bind_eq_some_iff.mp e
  obtain ⟨r, e3, e⟩ := Option.bind_eq_some_iff.mp e
  obtain ⟨ds, e2, e⟩ := Option.map_eq_some_iff.mp e
  cases e
  refine ⟨W, Γ, S, p.1, p.2, hF, R, e1, fun v H1 k1 R1 a1 => ⟨W, Γ, p.2, r.1, r.2, hF, R1, e3, fun v2 H2 k2 R2 a2 => ?_⟩⟩
  obtain ⟨d0, S0⟩ := p
  obtain ⟨d1, S1⟩ := r
  have key : ∀ (i j : Int), d0 = .int i → d1 = .int j → (RgOk i j ∨ j ≤ i) → ds = (List.range (j - i).toNat).map (fun (k : Nat) => PyData.int (i + k)) → (j - i).toNat ≤ 16777216 →
      ∃ i j : Int, v = .int i ∧ v2 = .int j ∧ ((RgOk i j ∨ j ≤ i) ∧ ∀ q, H2 q = none → Q (.ref q) (upd H2 q (.lst (rgV i j)))) := fun i j ei ej ok ed hz => by
    subst ei; subst ej; subst ed
    refine ⟨i, j, a1.int_of, a2.int_of, ok, fun q hq => k _ _ ((k1.trans k2).trans (.same (same_upd hq))) (R2.same (same_upd hq)) ?_⟩
    exact At.newL R2.tr hq (at_rgV i j) (by rw [List.length_map, List.length_range]; exact hz)
  unfold lrgD at e2
  split at e2
  · rename_i i j h
    simp only [List.cons.injEq, and_true] at h
    obtain ⟨h1, h2⟩ := h
    split at e2
    · rename_i z
      cases e2
      exact key i j h1 h2 (.inr z) (by rw [show (j - i).toNat = 0 by omega]; rfl) (by omega)
    · unfold rgD at e2
      split at e2
      · rename_i h; simp at h
      · rename_i i' j' h'
        simp only [List.cons.injEq, PyData.int.injEq, and_true] at h'
        obtain ⟨rfl, rfl⟩ := h'
        by_cases z : -(2 ^ 62) ≤ i ∧ i < 2 ^ 62 ∧ -(2 ^ 62) ≤ j ∧ j < 2 ^ 62 ∧ j - i ≤ 16777216
        · rw [if_pos z] at e2
          exact key i j h1 h2 (.inl ⟨z.1, z.2.1, z.2.2.1, z.2.2.2.1, by omega⟩) (Option.some.inj e2).symm (by omega)
        · rw [if_neg z] at e2
          cases e2
      · rename_i _ hno
        exact (hno i j rfl).elim
  · rename_i hne
    unfold rgD at e2
    split at e2
    · rename_i h; simp at h
    · rename_i i j h
      exact absurd h (hne i j)
    · cases e2
end
end K26
namespace K26
open PySem PySem.Spec PyProof.Rows L2 PySem.W PySem.SeqAt

section
variable {P : Program} {w : World} {A : Around} {E : Value → Shared → Prop} {s : Shared}
/-- max(d.values()), the values ints -/
theorem max_values {r d : Addr} {es : Array DictEntry} {ep : Nat} {n : Int} {ns : List Int} {as : List Addr} {Q : Value → Shared → Prop} (hh : A.handled = none) (hv : s.heap.IsValuesView r d) (hm : s.heap.DictRaw d es ep) (hu : A.units + 200 < cLine)
    (hr : ReadsAll s.heap (es.map (·.val)).toList (.int n :: ns.map .int) as) (h : ∀ h' tk t, (∀ b o, s.heap.get? b = some o → h'.get? b = some o) → Q (.int (ns.foldl max n) t) { s with heap := h', toks := tk }) :
    wpAny (model P w) A (call (.builtin "max") [.ref r]) Q E s := by
  have hn : es.size = (ns.map PyData.int).length + 1 := by have := readsAll_len (vs := es.map (·.val)) hr; rwa [Array.size_map] at this
  have lt : d < s.heap.objs.size := hm.lt_size
  refine call_max_walkH (wpAny_pyIter_values_raw hv hm ?_)
  have W := (Walks.rawValues (prog := P) (w := w) (A := A.in1) hh s.heap.objs.size d (Nat.ne_of_lt lt) es ep).toS
  have ep' : (fun (i : Nat) (v : Value) => ∃ hi : i < es.size, v = es[i].val) = fun i v => (es.map (·.val))[i]? = some v := by
    funext i v
    refine propext ⟨fun ⟨hi, e⟩ => by subst e; simp [hi], fun e => ?_⟩
    rw [Array.getElem?_map] at e
    obtain ⟨x, e1, e2⟩ := Option.map_eq_some_iff.mp e
    obtain ⟨hi, e3⟩ := Array.getElem?_eq_some_iff.mp e1
    exact ⟨hi, by rw [e3]; exact e2.symm⟩
  rw [ep'] at W
  have nm : ∀ b o, s.heap.get? b = some o → b ∉ [s.heap.objs.size] := fun b o e hb => Nat.lt_irrefl _ (List.mem_singleton.mp hb ▸ Heap.lt_size e)
  refine ⟨_, _, _, _, _, _, _, s.heap, _, rfl, W, ⟨⟨_, Heap.get?_push_size _ rfl, rfl, rfl⟩, hm.push _⟩, fun b hb => ?_, by omega, nm, fun b o e => Heap.get?_push_of_some _ e,
    cmpIn_gt (A := A.in1) hr (alike_ints2 (n :: ns)) (by have := depth_ints (n :: ns); simp only [List.map_cons] at this; rw [this]; show A.units + 1 + 0 < cLine; omega), fun v t hP m => ?_⟩
  · rw [Heap.size_push]
    rcases List.mem_cons.mp hb with e | hb
    · subst e; exact Nat.lt_succ_self _
    · rw [List.mem_singleton.mp hb]; exact Nat.lt_succ_of_lt lt
  · obtain ⟨h', tk, rfl, hk'⟩ := moved_old rfl rfl m
    obtain ⟨bs, r1, _, _, _⟩ := readsAll_atA hr _ v hP
    have e1 : es.size - 1 = (ns.map PyData.int).length := by omega
    have e2 := (argBest_fold (fun a b => dataLt b a) PyData.none (.int n) (ns.map .int) (ns.map PyData.int).length (Nat.le_refl _)).2
    rw [List.take_length] at e2
    rw [e1] at r1
    have r2 : Reads s.heap v (maxD (.int n) (ns.map .int)) bs := by unfold maxD; rw [← e2]; exact r1
    rw [maxD_ints] at r2
    obtain ⟨t, rfl⟩ := reads_int r2
    exact h h' tk t hk'
end
section
variable {X : Cx} {F : Fx} {e : Expr} {f g h : Gm → Pl → Re} {G : Gl0}
theorem AtD.valsL {M : Addr → Prop} {H : Hp} : ∀ {xs : List (NestedKey × Addr × Value)} {kvs : List (PyData × PyData)}, AtD G M H xs kvs → ∃ vs, AtL G M H vs (kvs.map (·.2)) ∧ Vals vs (xs.map (·.2.2))
  | _, _, .nil => ⟨[], .nil, .nil⟩
  | _, _, .cons a n r b t => by
    obtain ⟨vs, h1, h2⟩ := AtD.valsL t
    exact ⟨_ :: vs, .cons b h1, .cons r h2⟩
def tVmx (G : Gl0) (td : TE) : TE := fun σ H Q => td σ H fun x H1 => ∃ M a d, At G M H1 x a ∧ vmxD a = some d ∧ ∀ v, At G M H1 v d → Q v H1
theorem vmx_pe (B : Bx X) {n : Str} {td : TE} {p q np ap cp : Pos} (hg : Gl X "max") (hd : PE X (.Name n np) td) (line : (ap.endLine == cp.line) = true) : PE X (.Call (.Name "max" p) [.Call (.Attribute (.Name n np) "values" ap) [] [] cp] [] q) (tVmx (gl X) td) := by
  refine ⟨fun pins s σ H Q I hq => ?_⟩
  refine Call_ (ld_blt I hg (B.blt _ (by decide)) boot_max (PyProof.Rows.callWith_builtin1 (PyProof.Rows.args_cons ?_ rfl) rfl rfl))
  refine wpAny_Call_method (T := "dict") (id := "dict.values") rfl rfl line F.plainAttrs_dict F.slot_dict_values F.type_dict_values (thn (hd.run pins s σ H _ I hq) fun u s1 ⟨x, H1, I1, rx, M, a, d, ha, e, q⟩ => ?_)
  unfold vmxD at e
  split at e
  · rename_i kvs
    obtain ⟨ns, h1, e⟩ := Option.bind_eq_some_iff.mp e
    obtain ⟨m, h2, rfl⟩ := Option.map_eq_some_iff.mp e
    obtain ⟨p', xs, rfl, hs, hH, hn, hD, hz⟩ := (AtH.of ha).dict
    obtain rfl : u = Value.ref p' := rx
    have hm := dic_at I1 hH hn hD
    refine ⟨hm.typeIs, fun b qb => ?_, ?_⟩
    · cases qb
      obtain ⟨o, es, ep, e1, e2, _⟩ := hm
      exact ⟨o, e1, e2.2.1⟩
    · obtain ⟨es, ep, hr, hsz, hes⟩ := hm.raw
      show wpAny _ _ (callWith cp (.builtin "dict.values") [.ref p'] [] []) _ X.xe s1
      refine method_meetsIn F.slot_dict_values F.entry_dict_values rfl (PySem.evalArgs_none ⟨rfl, hm.typeIs, F.args_dict_values_1 _, _, meets_dict_values_raw p' hs, ⟨⟨es, ep, hr⟩, PyProof.Rows.args_nil ?_⟩⟩)
      have I2 : Inv X pins σ H1 { s1 with heap := s1.heap.push { cls := .type "dict_values", data := .fields #[.ref p'] } } := I1.kept (t' := s1.toks) fun b ob q => Heap.get?_push_of_some _ q
      obtain ⟨vs, a1, r1⟩ := hD.valsL
      have ei := intsD_of h1
      rw [ei] at a1
      obtain ⟨as, rd⟩ := a1.reads I2 _ _ _ (plain_ints ns) r1
      have ev : (es.map (·.val)).toList = xs.map (·.2.2) := by
        apply List.ext_getElem?
        intro j
        rw [Array.toList_map, List.getElem?_map, List.getElem?_map, Array.getElem?_toList]
        by_cases hj : j < es.size
        · obtain ⟨y, y1, y2, y3, y4⟩ := hes j hj
          rw [y1, Array.getElem?_eq_getElem hj]
          simp [y3]
        · rw [Array.getElem?_eq_none (by omega), List.getElem?_eq_none (by omega)]
          rfl
      cases ns with
      | nil => cases h2
      | cons n0 ns =>
        have h2 : ns.foldl max n0 = m := Option.some.inj h2
        refine max_values (A := X.A) (n := n0) (ns := ns) (I.ok.hd B.calm) (r := s1.heap.objs.size) ⟨_, Heap.get?_push_size _ rfl, rfl, rfl⟩ (hr.push _) B.room (by rw [ev]; exact rd) fun h' tk t k => ?_
        rw [h2]
        exact ⟨.int m, H1, I2.kept (h' := h') (t' := tk) k, ⟨_, rfl⟩, q _ (.int m)⟩
  · cases e
theorem lE_vmx (σ : L2.St) (H : Hp) (Q : VK) (q : lE G F (un f vmxD) σ H Q) : tVmx G (lE G F f) σ H Q := by
  refine lE_un (r := fun x H Q => ∃ M a d, At G M H x a ∧ vmxD a = some d ∧ ∀ v, At G M H v d → Q v H) (fun x H Q z => ?_) σ H Q q
  obtain ⟨M, a, d, tr, ha, e, k⟩ := z
  exact ⟨M, a, d, ha, e, fun v av => k v H Same.refl av⟩
/-! ### d.get(k, x) -/
def tGet (G : Gl0) (td tk tx : TE) : TE := fun σ H Q => td σ H fun v H1 => (∃ M kvs, AtH G M H1 v (.dict kvs)) ∧ tk σ H1 fun y H2 => tx σ H2 fun z H3 => ∃ M a b c d, AtH G M H3 v a ∧ At G M H3 y b ∧ At G M H3 z c ∧ getD' a b c = some d ∧ ∀ v', At G M H3 v' d → Q v' H3
theorem get_pe (B : Bx X) {n : Str} {a b : Expr} {td tk tx : TE} {np ap cp : Pos} (hd : PE X (.Name n np) td) (ha : PE X a tk) (hb : PE X b tx) (pa : plainE a = true) (pb : plainE b = true) (line : (ap.endLine == cp.line) = true) :
    PE X (.Call (.Attribute (.Name n np) "get" ap) [a, b] [] cp) (tGet (gl X) td tk tx) := by
  refine ⟨fun pins s σ H Q I hq => ?_⟩
  have tr : backTo cp (starEach [a, b] X.env) = [(false, eval a X.env), (false, eval b X.env)] := by rw [star_cons pa, star_cons pb]; rfl
  refine wpAny_Call_method (T := "dict") (id := "dict.get") rfl (by rw [tr]; rfl) line F.plainAttrs_dict F.slot_dict_get F.type_dict_get (thn (hd.run pins s σ H _ I hq) fun u s1 ⟨x, H1, I1, rx, ⟨M, kvs, hx⟩, q⟩ => ?_)
  obtain ⟨p', xs, rfl, hs, hH, hn, hD, hz⟩ := hx.dict
  obtain rfl : u = Value.ref p' := rx
  have hm := dic_at I1 hH hn hD
  refine ⟨hm.typeIs, fun b' qb => ?_, ?_⟩
  · cases qb
    obtain ⟨o, es, ep, e1, e2, _⟩ := hm
    exact ⟨o, e1, e2.2.1⟩
  · rw [tr]
    refine Calls.callWith_builtin rfl (Calls.evalArgs_plain (Calls.spliced_cons (thn (ha.run pins s1 σ H1 _ I1 q) fun iv s2 ⟨y, H2, I2, ry, q2⟩ => Calls.spliced_cons (thn (hb.run pins s2 σ H2 _ I2 q2) fun fv s3 ⟨z, H3, I3, rz, q3⟩ => Calls.spliced_nil ?_))))
    obtain ⟨M', a', b', c', d', h1, h2, h3, e, q3⟩ := q3
    unfold getD' at e
    split at e
    · rename_i kvs' ks
      obtain ⟨k, hk, e⟩ := Option.bind_eq_some_iff.mp e
      split at e
      · rename_i d8
        cases e
        obtain ⟨kp, rfl, rfl, kis⟩ := nkey I3 hk h2 d8 ry
        obtain ⟨q', zs, eq, hs', hH', hn', hD', _⟩ := h1.dict
        cases eq
        have hm' := dic_at I3 hH' hn' hD'
        refine call_meetsIn F.slot_dict_get hm'.typeIs F.entry_dict_get (F.args_dict_get_3 _ _ _) (meetsH_dict_get_default (nestedKind X.prog X.w) p' kp hs' fv) ⟨by show X.A.units + 1 + 8 < cLine; have := B.room; omega, k, zs, kis, hm', ?_⟩
        have lk := hD'.look k
        cases e1 : lookD kvs' k with
        | none =>
          rw [e1] at lk q3
          rw [lk]
          exact ⟨z, H3, I3.tok _, rz, q3 z h3⟩
        | some dd =>
          rw [e1] at lk q3
          obtain ⟨b2, w', v2, e2, r2, a2⟩ := lk
          rw [e2]
          exact ⟨v2, H3, I3.tok _, r2, q3 v2 a2⟩
      · cases e
    · cases e
theorem getD_dict {a b c d : PyData} (h : getD' a b c = some d) : ∃ kvs, a = .dict kvs := by
  unfold getD' at h
  split at h
  · exact ⟨_, rfl⟩
  · cases h
theorem lE_get (σ : L2.St) (H : Hp) (Q : VK) (q : lE G F (fun Γ S => (f Γ S).bind fun p => (g Γ p.2).bind fun q => (h Γ q.2).bind fun r => (getD' p.1 q.1 r.1).map fun d => (d, r.2)) σ H Q) : tGet G (lE G F f) (lE G F g) (lE G F h) σ H Q := by
  obtain ⟨W, Γ, S, d, S', hF, R, e, k⟩ := q
  obtain ⟨p, e1, e⟩ := Option.bind_eq_some_iff.mp e
  obtain ⟨q, e2, e⟩ := Option.bind_eq_some_iff.mp e
  obtain ⟨r, e3, e⟩ := Option.bind_eq_some_iff.mp e
  obtain ⟨d', e4, e⟩ := Option.map_eq_some_iff.mp e
  cases e
  obtain ⟨kvs, ep⟩ := getD_dict e4
  exact ⟨W, Γ, S, p.1, p.2, hF, R, e1, fun v H1 k1 R1 a1 => ⟨⟨W.M, kvs, .of (by rw [← ep]; exact a1)⟩, W, Γ, p.2, q.1, q.2, hF, R1, e2, fun y H2 k2 R2 a2 => ⟨W, Γ, q.2, r.1, r.2, hF, R2, e3, fun z H3 k3 R3 a3 =>
    ⟨W.M, p.1, q.1, r.1, d, .of ((a1.fut (k2.fut R1)).fut (k3.fut R2)), a2.fut (k3.fut R2), a3, e4, fun v' a' => k v' H3 ((k1.trans k2).trans k3) R3 a'⟩⟩⟩⟩
theorem rdO_dict {Γ : Gm} {S S' : Pl} {i : Nat} {kvs : List (PyData × PyData)} (h : rdO Γ S i = some (.dict kvs)) : rdO Γ S' i = some (.dict kvs) := by
  unfold rdO at h ⊢
  split at h <;> simp_all
theorem lE_geto {i : Nat} (σ : L2.St) (H : Hp) (Q : VK) (q : lE G F (fun Γ S => (g Γ S).bind fun q => (h Γ q.2).bind fun r => (rdO Γ r.2 i).bind fun o => (getD' o q.1 r.1).map fun d => (d, r.2)) σ H Q) : tGet G (tVar i) (lE G F g) (lE G F h) σ H Q := by
  obtain ⟨W, Γ, S, d, S', hF, R, e, k⟩ := q
  obtain ⟨q, e2, e⟩ := Option.bind_eq_some_iff.mp e
  obtain ⟨r, e3, e⟩ := Option.bind_eq_some_iff.mp e
  obtain ⟨o, e1, e⟩ := Option.bind_eq_some_iff.mp e
  obtain ⟨d', e4, e⟩ := Option.map_eq_some_iff.mp e
  cases e
  obtain ⟨kvs, eo⟩ := getD_dict e4
  subst eo
  obtain ⟨v, hv, av⟩ := R.read (rdO_dict (S' := S) e1)
  refine ⟨v, hv, ⟨W.M, kvs, av⟩, W, Γ, S, q.1, q.2, hF, R, e2, fun y H2 k2 R2 a2 => ⟨W, Γ, q.2, r.1, r.2, hF, R2, e3, fun z H3 k3 R3 a3 => ?_⟩⟩
  obtain ⟨v', hv', av'⟩ := R3.read e1
  rw [hv] at hv'
  cases hv'
  exact ⟨W.M, .dict kvs, q.1, r.1, d, av', a2.fut (k3.fut R2), a3, e4, fun v' a' => k v' H3 (k2.trans k3) R3 a'⟩
/-! ### text.upper() -/
theorem lE_upper (σ : L2.St) (H : Hp) (Q : VK) (q : lE G F (un f upD) σ H Q) : tM0 (fun x xs H Q => ∃ a, x = .str a ∧ xs = [] ∧ a.length ≤ 5592405 ∧ Q (.str (Txt.upper a)) H) (lE G F f) σ H Q := by
  obtain ⟨W, Γ, S, d, S', hF, R, e, k⟩ := q
  obtain ⟨p, e1, e⟩ := Option.bind_eq_some_iff.mp e
  obtain ⟨d', e2, e⟩ := Option.map_eq_some_iff.mp e
  cases e
  obtain ⟨d0, S0⟩ := p
  unfold upD at e2
  split at e2
  · rename_i x hx
    have hx : d0 = .str x := hx
    subst hx
    split at e2
    · rename_i z
      cases e2
      refine ⟨W, Γ, S, .str x, _, hF, R, e1, fun v H1 k1 R1 a1 => ?_⟩
      have ev := a1.str_of
      subst ev
      refine ⟨⟨x, rfl⟩, x, rfl, rfl, by omega, ?_⟩
      rw [PyProof.Rows.upper_ascii (fun c hc => ?_)]
      · exact k _ H1 k1 R1 (.str _)
      · have := Array.all_eq_true_iff_forall_mem.mp z.2 c (by simpa using hc)
        simpa using this
    · cases e2
  · cases e2
end
end K26
namespace K26
open PySem PySem.Spec PyProof.Rows L2 PySem.W PySem.SeqAt

/-! ### what a def promises: nothing leaves it, and no guard stands around it -/
abbrev Sg := List V → Hp → VK → Prop
structure FnG (P : Program) (w : World) (K : PySem.W.Frag) (mg : Str → Option Value) (base : Heap) (k : Nat) (f : Addr) (fd : FuncData) (ps : List Str) (sp : Sg) : Prop where
  len : ∀ vs H Q, sp vs H Q → vs.length = ps.length
  run : ∀ (A : Around) (outer : List Env) (s : Shared) (H : Hp) (args : Args) (us : List Value) (vs : List V) (Q : VK), Room k A → A.guards = some [] → Env0 P w K mg base A outer s H → BindsTo s fd args (ps.zip us) → Vals vs us → sp vs H Q →
    codeAny (model P w) A (.call (.ref f) args) (CR L2.CX0 outer P w H s Q L2.E0) s
/-- a pure def over data -/
def pureS (G : Gl0) (g : List PyData → Option PyData) : Sg := fun vs H Q => ∃ M ds d, Trk M H ∧ AtL G M H vs ds ∧ g ds = some d ∧ ∀ v H', Same H H' → At G M H' v d → Q v H'
/-- a def that draws from the pool -/
def poolS (G : Gl0) (tt : List (Addr × Str)) (g : List PyData → Pl → Option (PyData × Pl)) : Sg := fun vs H Q => ∃ W us ds S d S' p, vs = .ref p :: us ∧ W.pl = some p ∧ W.F.tt = tt ∧ Trk W.M H ∧ (∀ a, W.base a → W.M a) ∧ PoolOk G W H S p ∧ AtL G W.M H us ds ∧
  g ds S = some (d, S') ∧ ∀ v H', Keep W H H' → PoolOk G W H' S' p → At G W.M H' v d → Q v H'
section
variable {X : Cx} {k : Nat} {f : Addr} {fd : FuncData} {ps : List Str} {sp : Sg}
theorem FnG.cr (D : FnG X.prog X.w X.K X.mg X.base k f fd ps sp) (hr : Room k X.A) (hg : X.A.guards = some []) (hb : Binds X.K fd ps []) : CallR X (.ref f) sp := by
  intro pins s σ H vs us Q I r h
  have hl := D.len _ _ _ h
  have b := hb s us I.kIn (by rw [List.append_nil, ← r.length]; exact hl)
  rw [List.append_nil] at b
  refine wpAny_call (codeAny_mono (D.run X.A X.stack s H ⟨us, []⟩ us vs Q hr hg I.env0 b r h) fun r s' hq => ?_)
  match r, hq with
  | .error e, hq => exact False.elim hq
  | .ok (.ret u), hq => exact I.after hq
  | .ok .next, hq => exact False.elim hq
  | .ok .brk, hq => exact False.elim hq
  | .ok .cont, hq => exact False.elim hq
/-- f(e, ..), f a def -/
theorem call_pe {x : Str} {e : Expr} {es : List Expr} {t : TA} {p pos : Pos} {r : List V → Hp → VK → Prop} (hc : CallR X (.ref f) r) (hg : Gl X x) (hm : X.mg x = some (.ref f)) (hk : keepIn X.K (.ref f) = true) (ha : PA X (e :: es) t) (hdb : (x == ("__debug__" : Str)) = false)
    (he : starEach (e :: es) X.env = (false, eval e X.env) :: starEach es X.env) (hpl : (backTo pos (starEach es X.env)).any (·.1) = false) : PE X (.Call (.Name x p) (e :: es) [] pos) (tCB r t) :=
  ⟨fun pins s σ H Q I h => wpAny_Call_Name_kw (ld_glob I hg hm (PySem.W.callWith_K (h₀ := X.base) I.ok.mod.kin hk (thn (ha.run pos pins s σ H _ I h) fun us s1 ⟨vs, H1, I1, r1, q⟩ => ⟨I1.kIn, hc pins s1 σ H1 vs us Q I1 r1 q⟩) he hpl) hdb)⟩
theorem call0_pe {x : Str} {p pos : Pos} {r : List V → Hp → VK → Prop} (hc : CallR X (.ref f) r) (hg : Gl X x) (hm : X.mg x = some (.ref f)) (hk : keepIn X.K (.ref f) = true) (hdb : (x == ("__debug__" : Str)) = false) : PE X (.Call (.Name x p) [] [] pos) (tCB r tNil) :=
  ⟨fun pins s σ H Q I h => wpAny_Call_Name_kw (ld_glob I hg hm (PySem.W.callWith_K0 I.kIn hk (hc pins s σ H [] [] Q I .nil h)) hdb)⟩
/-- f(b = .., a = ..): the parameters a, b -/
theorem callk_pe {x n1 n2 : Str} {e1 e2 : Expr} {k1 k2 p pos : Pos} {t1 t2 : TE} (D : FnG X.prog X.w X.K X.mg X.base k f fd ps sp) (hr : Room k X.A) (gd : X.A.guards = some [])
    (hb : ∀ (s : Shared) (u1 u2 : Value), BindsTo s fd ⟨[], [(n1, u1), (n2, u2)]⟩ (ps.zip [u2, u1])) (hg : Gl X x) (hm : X.mg x = some (.ref f)) (hk : keepIn X.K (.ref f) = true) (h1 : PE X e1 t1) (h2 : PE X e2 t2) (hdb : (x == ("__debug__" : Str)) = false) :
    PE X (.Call (.Name x p) [] [⟨some n1, e1, k1⟩, ⟨some n2, e2, k2⟩] pos) (fun σ H Q => tCons t1 (tCons t2 tNil) σ H fun vs H2 => ∃ v1 v2, vs = [v1, v2] ∧ sp [v2, v1] H2 Q) := by
  refine ⟨fun pins s σ H Q I h => wpAny_Call_Name_kw (ld_glob I hg hm ?_ hdb)⟩
  have pk : PK X [⟨some n1, e1, k1⟩, ⟨some n2, e2, k2⟩] (tCons t1 (tCons t2 tNil)) := pk_cons h1 (pk_cons h2 pk_nil)
  refine PySem.W.callWith_KW0 (h₀ := X.base) I.ok.mod.kin hk (by rfl) (thn (pk.run pos pins s σ H (fun vs H2 => ∃ v1 v2, vs = [v1, v2] ∧ sp [v2, v1] H2 Q) I h) fun ws s2 ⟨zs, H2, I2, rz, v1, v2, ez, q⟩ => ⟨I2.kIn, ?_⟩) (by rfl)
  subst ez
  obtain ⟨u1, u2, rfl, r1, r2⟩ := Vals.two rz
  refine wpAny_call (codeAny_mono (D.run X.A X.stack s2 H2 ⟨[], [(n1, u1), (n2, u2)]⟩ [u2, u1] [v2, v1] Q hr gd I2.env0 (hb s2 u1 u2) (.cons r2 (.cons r1 .nil)) q) fun r s' hq => ?_)
  match r, hq with
  | .error e, hq => exact False.elim hq
  | .ok (.ret u), hq => exact I2.after hq
  | .ok .next, hq => exact False.elim hq
  | .ok .brk, hq => exact False.elim hq
  | .ok .cont, hq => exact False.elim hq
/-- a def's body, over the contexts that it runs in -/
theorem fng_of {P : Program} {w : World} {K : PySem.W.Frag} {mg : Str → Option Value} {base : Heap} {x qual : Str} {st : Stmt} {N : List Str} (F : L2.Fun K x qual st f fd) (S : FnScope N ps (L2.defScope st)) (len : ∀ vs H Q, sp vs H Q → vs.length = ps.length)
    (hbody : ∀ (cdv : Value) (A : Around) (outer : List Env) (s : Shared) (H : Hp) (vs : List V) (Q : VK), codeIn K cdv qual = true → fd.code = cdv → A.guards = some [] → Room k (A.deeper (envOfC qual (L2.defScope st) s.heap.objs.size f cdv)) → sp vs H Q →
      ∃ t, PSs (cxOf L2.CX0 P w K mg base N qual (L2.defScope st) f cdv A outer s H L2.E0).nox (L2.defBody st) t ∧ t { nx := fun _ H' => Q .non H', rt := Q } (L2.start N vs) H) : FnG P w K mg base (k + 1) f fd ps sp := by
  obtain ⟨oc, od, kV, doc, pm, an, cdv, ct, osl, rfl, lk, hcd⟩ := F.ex
  refine ⟨len, fun A outer s H args us vs Q hr gd e0 hb r hsp => ?_⟩
  have kin : K.In s.heap := e0.mod.kin.keeps fun b o e => (e0.bs b o e).1
  have nl : s.heap.NoLimit := e0.mod.nolimit.keeps fun b o e => (e0.bs b o e).1
  have kd : ∀ y ∈ ps.zip us, (L2.defScope st).names.lookup y.1 = some .local ∨ ((L2.defScope st).names.lookup y.1 = some .cell ∧ ((cellsFrom (s.heap.objs.size + 1) (L2.defScope st).names []).lookup y.1).isSome = true) := fun y hy => by
    have hm := (List.of_mem_zip (show (y.1, y.2) ∈ ps.zip us from hy)).1
    exact (S.par y.1 hm).imp id fun q => ⟨q, PySem.W.cellsFrom_some _ _ _ (.inl q)⟩
  refine codeAny_call_function hr.depth (kin _ _ lk) rfl S.co S.gen rfl (PySem.W.codeRec_of kin hcd) (hb _ _ _ _ (wpAny_newFunctionEnv_cells S.kind kd fun env he s1 ic => ?_))
  subst he
  refine ⟨nl.keeps ic.toInCall.keep, codeAny_func ?_⟩
  obtain ⟨t, ht, hq⟩ := hbody cdv A outer s H vs Q hcd rfl gd (hr.deeper _) hsp
  have J := inv_start (CX := L2.CX0) (E := L2.E0) S hr.hd e0 (len _ _ _ hsp) r ic
  refine wpAny_mono (ht.nox.run [] s1 _ H _ J hq) (fun fl t hs => ?_) fun e t hs => hs
  match fl, hs with
  | .ret u, ⟨v, _, H', J', rv, q⟩ => exact ⟨v, H', J'.os, J'.bare, J'.base, J'.hok, rv, q⟩
  | .next, ⟨_, H', J', q⟩ => exact ⟨.non, H', J'.os, J'.bare, J'.base, J'.hok, rfl, q⟩
  | .brk, ⟨_, _, _, q⟩ => exact False.elim q
  | .cont, ⟨_, _, _, q⟩ => exact False.elim q
end
/-! ### what a body's context knows -/
/-- the function that was handed in, called: objects that stay are there -/
def rLf (G : Gl0) (kp : List (Addr × HO)) (h : PyData → Option PyData) (x : V) (H : Hp) (Q : VK) : Prop := ∃ M a d, (∀ p ∈ kp, ¬ M p.1 ∧ H p.1 = some p.2) ∧ Trk M H ∧ At G M H x a ∧ h a = some d ∧ ∀ w H', Same H H' → At G M H' w d → Q w H'
structure Ok0 (X : Cx) (k : Ck) (c : Cf) (F : Fx) (lev : Nat) : Prop where
  gd : X.A.guards = some []
  calm : X.calm = true
  blt : ∀ x ∈ (["len", "abs", "int", "max", "min", "list", "tuple", "all", "sorted", "str", "repr", "divmod", "isinstance", "dict", "set", "range", "enumerate", "zip", "bool"] : List Str), X.mg x = none
  N : X.N = k.N
  nd : X.N.Nodup
  sc : X.env.scope = k.sc
  top : k.top = true → X.fn = fun _ => true
  xe : X.xe = fun _ _ => False
  rm : Room lev X.A
  mgG : ∀ g x, gnm g = some x → ∃ u v, X.mg x = some u ∧ RelV v u ∧ ∀ M H, At (gl X) M H v (c.gl g)
  fns : ∀ f g, c.fn f = some g → ∃ x fa fd ps, fnm f = some x ∧ X.mg x = some (.ref fa) ∧ keepIn X.K (.ref fa) = true ∧ Binds X.K fd ps [] ∧ FnG X.prog X.w X.K X.mg X.base lev fa fd ps (pureS (gl X) g) ∧
    (f = 38 → ∀ (s : Shared) (u1 u2 : Value), BindsTo s fd ⟨[], [("certificate", u1), ("claim", u2)]⟩ (ps.zip [u2, u1]))
  pfs : ∀ f g, c.pf f = some g → ∃ x fa fd ps, fnm f = some x ∧ X.mg x = some (.ref fa) ∧ keepIn X.K (.ref fa) = true ∧ Binds X.K fd ps [] ∧ FnG X.prog X.w X.K X.mg X.base lev fa fd ps (poolS (gl X) F.tt g)
  lf : k.top = true → ∀ l, c.lf = some l → ∀ (i : Nat) (a : Str) (arg : Expr) (ta : TE) (p1 p2 : Pos), k.vis i a = true → plainE arg = true → PE X arg ta →
    PE X (.Call (.Name a p1) [arg] [] p2) (fun σ H Q => (∃ fa, F.fa = some fa ∧ σ[i]? = some (some (.ref fa))) ∧ ta σ H fun x H1 => rLf (gl X) F.kp l x H1 Q)
structure Okx (X : Cx) (k : Ck) (c : Cf) (F : Fx) (lev : Nat) : Prop extends Ok0 X k c F lev where
  st : k.lam = true → k.glb "_law_settled" = true → ∀ (caps : List Nat) (b : Tm) (y : Str) (args : Arguments) (body : Expr) (sc : Scope) (pos p p2 : Pos), lamPar args = some y → lamB k caps y sc = true →
    (∀ X' lev', Ok0 X' (k.lamK caps y sc) c { tt := F.tt } lev' → PE X' body (lE (gl X') { tt := F.tt } (evE c b))) → PE X (.Call (.Name "_law_settled" p) [.Lambda args body sc pos] [] p2) (lE (gl X) F (evE c (.settle caps b)))
theorem Ok0.bx {X : Cx} {k : Ck} {c : Cf} {F : Fx} {lev : Nat} (o : Ok0 X k c F lev) : Bx X :=
  ⟨o.calm, o.gd, by have := o.rm.un; omega, fun x hx => o.blt x (by simp only [List.mem_cons, List.not_mem_nil, or_false] at hx ⊢; rcases hx with h | h | h | h | h | h | h | h | h | h | h | h | h | h | h | h | h | h <;> simp [h])⟩
theorem Ok0.okx {X : Cx} {k : Ck} {c : Cf} {F : Fx} {lev : Nat} (o : Ok0 X k c F lev) (h : k.lam = false) : Okx X k c F lev := ⟨o, fun z => by rw [h] at z; cases z⟩
end K26
namespace K26
open PySem PySem.Spec PyProof.Rows L2 PySem.W PySem.SeqAt

/-! ### enumerate(tuple) -/
set_option maxHeartbeats 1000000 in
theorem enum_new1 {v : Value} {o : Obj} {H : Heap → Prop} (B : Begins v o H) : Meets (Builtin.«enumerate.__new__» ⟨[.type "enumerate", v], []⟩) (fun _ R s => H s.heap ∧
      R (.ok (.ret (.ref (s.heap.push o).objs.size))) { s with heap := (s.heap.push o).push { cls := .type "enumerate", data := .fields #[.none, .bool false, .ref s.heap.objs.size, rawInt 0, .none, .none] } }) :=
  .of_wp fun P w A R t ht => by
    obtain ⟨hh, g, d, tk, os⟩ := t; obtain ⟨h1, ht⟩ := ht
    have sb := sub_enumerate
    have it : ∀ {A' : Around} {E Q : Value → Shared → Prop}, Q (.ref hh.objs.size) ⟨hh.push o, g, d, tk, os⟩ → wpAny (model P w) A' (pyIter v) Q E ⟨hh, g, d, tk, os⟩ := fun q => B.iter P w _ _ ⟨hh, g, d, tk, os⟩ _ h1 q
    wp_walk using it
    refine wpAny_stack_any fun _ => wpAny_pure ?_
    split
    · rename_i c _ _ _ _ _
      cases (c == Value.type "enumerate") <;> (wp_walk using it; exact ⟨_, rfl, ht⟩)
    · wp_walk using it
      exact ⟨_, rfl, ht⟩
section
variable {P : Program} {w : World} {A : Around} {E : Value → Shared → Prop} {s : Shared}
theorem enum_call1 {v : Value} {o : Obj} {H : Heap → Prop} {Q : Value → Shared → Prop} (B : Begins v o H) (h1 : H s.heap)
    (q : ∀ h', IsEnum h' (s.heap.objs.size + 1) s.heap.objs.size 0 .none → h'.get? s.heap.objs.size = some o → (∀ b o, s.heap.get? b = some o → h'.get? b = some o) → Q (.ref (s.heap.objs.size + 1)) { s with heap := h' }) :
    wpAny (model P w) A (call (.type "enumerate") [v]) Q E s := by
  refine callType_new F.called_enumerate (by decide) (F.typeCall_enumerate_1 _) (F.newCall_enumerate_1 _) (fun ob => F.args_object_init_2 ob _) F.entry_enumerate_new (enum_new1 B) ⟨h1, ?_⟩
  have sz : (s.heap.push o).objs.size = s.heap.objs.size + 1 := Heap.size_push ..
  show _ ∧ _
  rw [sz]
  have ie : IsEnum ((s.heap.push o).push { cls := .type "enumerate", data := .fields #[.none, .bool false, .ref s.heap.objs.size, rawInt 0, .none, .none] }) (s.heap.objs.size + 1) s.heap.objs.size 0 .none := sz ▸ Heap.get?_push_size (s.heap.push o) (o := { cls := .type "enumerate", data := .fields #[.none, .bool false, .ref s.heap.objs.size, rawInt 0, .none, .none] }) rfl
  exact ⟨⟨_, ie, rfl⟩, q _ ie (Heap.get?_push_of_some _ (Heap.get?_push_size _ B.free)) fun b o x => Heap.get?_push_of_some _ (Heap.get?_push_of_some _ x)⟩
end
/-- the tuple at a, each item in a new pair -/
def IteT (K : PySem.W.Frag) (a : Addr) : It :=
  ⟨fun i H => ∃ (xs : List V) (x : V), SqT K H a xs ∧ xs[i]? = some x, fun i H v H' => ∃ T x, v = .ref T ∧ H T = none ∧ H' = upd H T (.tup [.int (i : Nat), x]) ∧ ∀ xs, SqT K H a xs → xs[i]? = some x, fun i H => ∃ xs : List V, SqT K H a xs ∧ xs.length = i⟩
theorem turn_enumT {P : Program} {w : World} {K : PySem.W.Frag} {elts : List Expr} {kk : Nat} {tpos : Pos} (a e it : Addr) :
    Turn P w K (.Tuple elts kk tpos) (IteT K a) [e, it] e (fun i h => (∃ old, IsEnum h e it ((i : Nat) : Int) old) ∧ h.IsTupleIter it a i ∧ e ≠ it) where
  mem := List.mem_cons_self
  obj := fun i h st b hb => by
    obtain ⟨⟨old, he⟩, ⟨o, ho, _, hd⟩, _⟩ := st
    rcases List.mem_cons.mp hb with z | z
    · subst z; exact ⟨_, he, fun v q => nomatch q⟩
    · rw [List.mem_singleton.mp z]; exact ⟨o, ho, fun v q => by rw [hd] at q; cases q⟩
  keep := fun i h h' st k => let ⟨⟨old, he⟩, hi, hne⟩ := st; ⟨⟨old, k e (by simp) _ he⟩, hi.at fun o q => k it (by simp) o q, hne⟩
  item := by
    intro X hP hw hK hc i pins s σ H E I hf st hg
    subst hP hw hK
    obtain ⟨⟨old, he⟩, hit, hne⟩ := st
    obtain ⟨xs, x, hq, hx⟩ := hg
    obtain ⟨its, rv, p, _⟩ := I.tuple hq
    obtain ⟨u, hu, ru⟩ := rv.get hx
    obtain ⟨ot, hot, hct, nt, hdt⟩ := id p
    obtain ⟨oi, hoi, hci, hdi⟩ := id hit
    have n1 : a ≠ it := fun z => by rw [z, hoi] at hot; cases hot; rw [hci] at hct; injection hct with z; exact absurd z (by decide)
    have n2 : e ≠ a := fun z => by rw [← z, he] at hot; cases hot; injection hct with z; exact absurd z (by decide)
    have lt : i < its.toArray.size := (Array.getElem?_eq_some_iff.mp (show its.toArray[i]? = some u by simpa using hu)).1
    have le := Heap.lt_size he
    have li := Heap.lt_size hoi
    refine wpAny_pyNext_enum_itemD (Draws.tuple (prog := X.prog) (w := X.w) (A := X.A.in1) (I.ok.hd hc) it a n1 its.toArray) he ⟨hit, p⟩ lt hne (by simp [hne, n2]) fun y h' tk hy ho ⟨hit', _⟩ hT hsz hk => ?_
    have ey : y = u := Option.some.inj (hy.symm.trans (by simpa using hu))
    subst ey
    refine ⟨_, rfl, wpAny_letOwnedTupleGo_enum (s := { s with heap := h', toks := tk + 1 }) ho fun h2 he' sb => ?_⟩
    have hT2 := (sb.2 _ (Nat.ne_of_gt le)).trans hT
    have new : ObjOk X.prog X.w (upd H s.heap.objs.size (.tup [.int (i : Nat), x])) h2 s.heap.objs.size (.tup [.int (i : Nat), x]) := ⟨show 2 ≤ sizeLine by decide, [.int i tk, y], .cons ⟨_, rfl⟩ (.cons ru .nil), ⟨_, hT2, rfl, _, rfl⟩⟩
    have I1 : Inv X pins σ (upd H s.heap.objs.size (.tup [.int (i : Nat), x])) { s with heap := h2, toks := tk + 1 } :=
      I.turnedNew (ch := [e, it]) (fun b ob hb q => (sb.2 b (fun z => hb (by simp [z]))).trans (hk b ob (fun z => hb (by simp [z])) (fun z => hb (by simp [z])) q)) hf (Nat.le_refl _) new
    refine ⟨.ref s.heap.objs.size, _, I1, rfl, ⟨_, x, rfl, I.hok.fresh (Nat.le_refl _), rfl, fun ys hy => by rw [I.tuple_inj hy hq]; exact hx⟩, ⟨⟨y, ?_⟩, hit'.at fun o q => (sb.2 it (Ne.symm hne)).trans q, hne⟩, fun b hb => ?_⟩
    · rw [show ((i + 1 : Nat) : Int) = (i : Int) + 1 by omega]; exact he'
    · have hb' : b < s.heap.objs.size := by
        rcases List.mem_cons.mp hb with z | z
        · subst z; exact le
        · rw [List.mem_singleton.mp z]; exact li
      rw [upd_ne (Nat.ne_of_lt hb')]
      exact (hf b hb).1
  done := by
    intro X hP hw hK hc i pins s σ H E I hf st hg
    subst hP hw hK
    obtain ⟨⟨old, he⟩, hit, hne⟩ := st
    obtain ⟨xs, hq, hx⟩ := hg
    obtain ⟨its, rv, p, _⟩ := I.tuple hq
    obtain ⟨f0, f1, f2, f3, f4, f5⟩ := hf it (by simp)
    obtain ⟨ot, hot, hct, nt, hdt⟩ := id p
    obtain ⟨oi, hoi, hci, hdi⟩ := id hit
    have n1 : a ≠ it := fun z => by rw [z, hoi] at hot; cases hot; rw [hci] at hct; injection hct with z; exact absurd z (by decide)
    have hl := rv.length
    subst hx
    exact wpAny_pyNext_enum_endD (Draws.tuple (prog := X.prog) (w := X.w) (A := X.A.in1) (I.ok.hd hc) it a n1 its.toArray) he (by rw [List.size_toArray, ← hl]; exact ⟨hit, p⟩) fun h' eb => ⟨rfl, I.turned (t' := s.toks) (fun b o hb q => eb b o hb q) f0 f1 f3 f4 f5⟩
  self := fun A i s Q E st h => let ⟨⟨_, he⟩, _⟩ := st; wpAny_pyIter_enum he h
/-! ### a dict's keys -/
/-- the dict at d, as it stood when the walk began -/
def Ikd (P : Program) (w : World) (d : Addr) (xs : List (NestedKey × Addr × Value)) (ep : Nat) : It :=
  ⟨fun i H => H d = some (dicO P w d xs ep) ∧ i < xs.length, fun i H v H' => H' = H ∧ ∃ k b u, xs[i]? = some (k, b, u) ∧ v = .ref b, fun i H => H d = some (dicO P w d xs ep) ∧ xs.length ≤ i⟩
theorem dic_raw {X : Cx} {pins : List (Addr × Obj)} {σ : L2.St} {H : Hp} {s : Shared} {d : Addr} {xs : List (NestedKey × Addr × Value)} {ep : Nat} (I : Inv X pins σ H s) (h : H d = some (dicO X.prog X.w d xs ep)) :
    ∃ es : Array DictEntry, s.heap.DictRaw d es ep ∧ es.size = xs.length ∧ ∀ i k b u, xs[i]? = some (k, b, u) → ∃ hi : i < es.size, es[i].key = .ref b := by
  obtain ⟨⟨o, es, h1, h2, h3, h4⟩, _, _⟩ := I.hok d _ h
  refine ⟨es, ⟨o, h1, h2, h3⟩, size_of_entries h4, fun i k b u hi => ?_⟩
  have e : es.toList[i]? = some (entryOfKey (nestedKind X.prog X.w) (k, b, u)) := by rw [h4, List.getElem?_map, hi]; rfl
  rw [Array.getElem?_toList] at e
  obtain ⟨hi', e'⟩ := Array.getElem?_eq_some_iff.mp e
  exact ⟨hi', by rw [e']; rfl⟩
theorem turn_dic {P : Program} {w : World} {K : PySem.W.Frag} {tg : Expr} {d : Addr} {xs : List (NestedKey × Addr × Value)} {ep : Nat} (it : Addr) : Turn P w K tg (Ikd P w d xs ep) [it] it (fun i h => h.IsKeyIter it d i xs.length ep) where
  mem := List.mem_cons_self
  obj := fun i h st b hb => by
    rw [List.mem_singleton.mp hb]
    obtain ⟨o, e, _, q⟩ := st
    exact ⟨o, e, fun v z => by rw [q] at z; cases z⟩
  keep := fun i h h' st k => st.at fun o e => k it (by simp) o e
  item := by
    intro X hP hw hK hc i pins s σ H E I hf st hg
    subst hP hw hK
    obtain ⟨hd, hi⟩ := hg
    obtain ⟨f0, f1, f2, f3, f4, f5⟩ := hf it (by simp)
    obtain ⟨es, hr, hz, he⟩ := dic_raw I hd
    obtain ⟨⟨k, b, u⟩, hx⟩ : ∃ p, xs[i]? = some p := ⟨xs[i], List.getElem?_eq_getElem hi⟩
    obtain ⟨hi', hk⟩ := he i k b u hx
    rw [← hz] at st
    refine wpAny_pyNext_keys_item_raw st hr hi' fun h' st' sb => ?_
    rw [hz] at st'
    have I1 : Inv X pins σ H { s with heap := h' } := I.turned (t' := s.toks) (fun b ob hb e => (sb.2 b hb).trans e) f0 f1 f3 f4 f5
    obtain ⟨oi, e, c, q⟩ := id st'
    exact ⟨es[i].key, rfl, go_of (s := { s with heap := h' }) e c q (by decide) ⟨.ref b, H, I1, hk, ⟨rfl, k, b, u, hx, rfl⟩, st', fun b hb => (hf b hb).1⟩⟩
  done := by
    intro X hP hw hK hc i pins s σ H E I hf st hg
    subst hP hw hK
    obtain ⟨hd, hi⟩ := hg
    obtain ⟨f0, f1, f2, f3, f4, f5⟩ := hf it (by simp)
    obtain ⟨es, hr, hz, he⟩ := dic_raw I hd
    rw [← hz] at st
    exact wpAny_pyNext_keys_end_raw (I.ok.hd hc) st hr (by omega) fun h' eb => ⟨rfl, I.turned (t' := s.toks) (fun b ob hb e => eb b ob hb e) f0 f1 f3 f4 f5⟩
  self := fun A i s Q E st h => wpAny_pyIter_keyiter st h
end K26
set_option maxHeartbeats 4000000
namespace K26
open PySem PySem.Spec PyProof.Rows L2 PySem.W PySem.SeqAt

/-! ### walks over data -/
/-- J gives the data ds one by one, while what was not avoided at the start (M0, H0) stands -/
structure Wk (G : Gl0) (M0 : Addr → Prop) (H0 : Hp) (ds : List PyData) (J : It) : Prop where
  go : ∀ i M H, Fut M0 M H0 H → i < ds.length → J.go i H
  stop : ∀ M H, Fut M0 M H0 H → J.stop ds.length H
  yld : ∀ i M H v H2 d, Fut M0 M H0 H → Trk M H → ds[i]? = some d → J.yld i H v H2 → Same H H2 ∧ At G M H2 v d
def lI (G : Gl0) (F : Fx) (f : Gm → Pl → Option (List PyData × Pl)) : TI := fun σ H R => ∃ W Γ S ds S', W.F = F ∧ Rep G W H σ Γ S ∧ f Γ S = some (ds, S') ∧ ∀ J H', Keep W H H' → Rep G W H' σ Γ S' → Wk G W.M H' ds J → R J H'
section
variable {X : Cx} {F : Fx} {e tg : Expr} {f g : Gm → Pl → Re} {G : Gl0} {M0 : Addr → Prop} {H0 : Hp}
theorem piW {wi wi' : TI} (h : PI X tg e wi) (w : ∀ σ H R, wi' σ H R → wi σ H R) : PI X tg e wi' := ⟨fun pins s σ H R I q => h.run pins s σ H R I (w σ H R q)⟩
theorem piOr {wi wi' : TI} (h : PI X tg e wi) (h' : PI X tg e wi') : PI X tg e (fun σ H R => wi σ H R ∨ wi' σ H R) := ⟨fun pins s σ H R I q => q.elim (h.run pins s σ H R I) (h'.run pins s σ H R I)⟩
theorem At.sq {v : V} {ds : List PyData} (h : At G M0 H0 v (.tuple ds)) : ∃ a xs, v = .ref a ∧ ((¬ M0 a ∧ H0 a = some (.tup xs)) ∨ KTup G.K a xs) ∧ AtL G M0 H0 xs ds := by
  cases h with | tup h z t => exact ⟨_, _, rfl, h, t⟩
theorem At.ls {v : V} {ds : List PyData} (h : At G M0 H0 v (.list ds)) : ∃ a xs, v = .ref a ∧ ¬ M0 a ∧ H0 a = some (.lst xs) ∧ AtL G M0 H0 xs ds := by
  cases h with | lst n h z t => exact ⟨_, _, rfl, n, h, t⟩
theorem sq_fut {K : PySem.W.Frag} {M : Addr → Prop} {H : Hp} {a : Addr} {xs : List V} (f : Fut M0 M H0 H) (h : (¬ M0 a ∧ H0 a = some (.tup xs)) ∨ KTup K a xs) : SqT K H a xs := h.elim (fun q => .of (f _ _ q.1 q.2).1) .inr
theorem wk_list {a : Addr} {xs : List V} {ds : List PyData} (n : ¬ M0 a) (h : H0 a = some (.lst xs)) (t : AtL G M0 H0 xs ds) : Wk G M0 H0 ds (Itl G.K a) where
  go := fun i M H f hi => by
    have hx : i < xs.length := by rw [t.length]; exact hi
    exact ⟨xs, xs[i], .of (f _ _ n h).1, List.getElem?_eq_getElem hx⟩
  stop := fun M H f => ⟨xs, .of (f _ _ n h).1, by rw [t.length]; exact Nat.le_refl _⟩
  yld := fun i M H v H2 d f tr hd y => by
    obtain ⟨rfl, y⟩ := y
    obtain ⟨w, h1, h2⟩ := t.get hd
    have e := y xs (.of (f _ _ n h).1)
    rw [h1] at e
    cases e
    exact ⟨Same.refl, h2.fut f⟩
theorem wk_tup {a : Addr} {xs : List V} {ds : List PyData} (h : (¬ M0 a ∧ H0 a = some (.tup xs)) ∨ KTup G.K a xs) (t : AtL G M0 H0 xs ds) : Wk G M0 H0 ds (Itt G.K a) where
  go := fun i M H f hi => by
    have hx : i < xs.length := by rw [t.length]; exact hi
    exact ⟨xs, xs[i], sq_fut f h, List.getElem?_eq_getElem hx⟩
  stop := fun M H f => ⟨xs, sq_fut f h, by rw [t.length]; exact Nat.le_refl _⟩
  yld := fun i M H v H2 d f tr hd y => by
    obtain ⟨rfl, y⟩ := y
    obtain ⟨w, h1, h2⟩ := t.get hd
    have e := y xs (sq_fut f h)
    rw [h1] at e
    cases e
    exact ⟨Same.refl, h2.fut f⟩
theorem wk_enL {a : Addr} {xs : List V} {ds : List PyData} (n : ¬ M0 a) (h : H0 a = some (.lst xs)) (t : AtL G M0 H0 xs ds) : Wk G M0 H0 (ds.mapIdx fun i x => .tuple [.int i, x]) (Ite G.K a) where
  go := fun i M H f hi => by
    have hx : i < xs.length := by rw [t.length]; simpa using hi
    exact ⟨xs, xs[i], .of (f _ _ n h).1, List.getElem?_eq_getElem hx⟩
  stop := fun M H f => ⟨xs, .of (f _ _ n h).1, by rw [t.length]; simp⟩
  yld := fun i M H v H2 d f tr hd y => by
    obtain ⟨T, x, rfl, hT, rfl, y⟩ := y
    rw [List.getElem?_mapIdx] at hd
    obtain ⟨d', hd', rfl⟩ := Option.map_eq_some_iff.mp hd
    obtain ⟨w, h1, h2⟩ := t.get hd'
    have e := y xs (.of (f _ _ n h).1)
    rw [h1] at e
    cases e
    exact ⟨same_upd hT, At.newT tr hT (.cons (.int _) (.cons (h2.fut f) .nil)) (show 2 ≤ SL by decide)⟩
theorem wk_enT {a : Addr} {xs : List V} {ds : List PyData} (h : (¬ M0 a ∧ H0 a = some (.tup xs)) ∨ KTup G.K a xs) (t : AtL G M0 H0 xs ds) : Wk G M0 H0 (ds.mapIdx fun i x => .tuple [.int i, x]) (IteT G.K a) where
  go := fun i M H f hi => by
    have hx : i < xs.length := by rw [t.length]; simpa using hi
    exact ⟨xs, xs[i], sq_fut f h, List.getElem?_eq_getElem hx⟩
  stop := fun M H f => ⟨xs, sq_fut f h, by rw [t.length]; simp⟩
  yld := fun i M H v H2 d f tr hd y => by
    obtain ⟨T, x, rfl, hT, rfl, y⟩ := y
    rw [List.getElem?_mapIdx] at hd
    obtain ⟨d', hd', rfl⟩ := Option.map_eq_some_iff.mp hd
    obtain ⟨w, h1, h2⟩ := t.get hd'
    have e := y xs (sq_fut f h)
    rw [h1] at e
    cases e
    exact ⟨same_upd hT, At.newT tr hT (.cons (.int _) (.cons (h2.fut f) .nil)) (show 2 ≤ SL by decide)⟩
theorem zw_get {ds es : List PyData} {i : Nat} {d : PyData} (h : (ds.zipWith (fun x y => PyData.tuple [x, y]) es)[i]? = some d) : ∃ x y, ds[i]? = some x ∧ es[i]? = some y ∧ d = .tuple [x, y] := by
  rw [List.getElem?_zipWith] at h
  cases h1 : ds[i]? <;> cases h2 : es[i]? <;> simp [h1, h2] at h
  exact ⟨_, _, rfl, rfl, h.symm⟩
theorem wk_zpL {a b : Addr} {xs ys : List V} {ds es : List PyData} (n : ¬ M0 a) (h : H0 a = some (.lst xs)) (t : AtL G M0 H0 xs ds) (n' : ¬ M0 b) (h' : H0 b = some (.lst ys)) (t' : AtL G M0 H0 ys es) : Wk G M0 H0 (ds.zipWith (fun x y => .tuple [x, y]) es) (Itz G.K a b) where
  go := fun i M H f hi => by
    rw [List.length_zipWith, ← t.length, ← t'.length] at hi
    have h1 : i < xs.length := by omega
    have h2 : i < ys.length := by omega
    exact ⟨xs, ys, xs[i], ys[i], .of (f _ _ n h).1, .of (f _ _ n' h').1, List.getElem?_eq_getElem h1, List.getElem?_eq_getElem h2⟩
  stop := fun M H f => ⟨xs, ys, .of (f _ _ n h).1, .of (f _ _ n' h').1, by rw [List.length_zipWith, t.length, t'.length]; omega⟩
  yld := fun i M H v H2 d f tr hd y => by
    obtain ⟨T, x, z, rfl, hT, rfl, y1, y2⟩ := y
    obtain ⟨d1, d2, g1, g2, rfl⟩ := zw_get hd
    obtain ⟨w, e1, a1⟩ := t.get g1
    obtain ⟨w', e2, a2⟩ := t'.get g2
    have q1 := y1 xs (.of (f _ _ n h).1)
    have q2 := y2 ys (.of (f _ _ n' h').1)
    rw [e1] at q1
    rw [e2] at q2
    cases q1
    cases q2
    exact ⟨same_upd hT, At.newT tr hT (.cons (a1.fut f) (.cons (a2.fut f) .nil)) (show 2 ≤ SL by decide)⟩
theorem wk_zpT {a b : Addr} {xs ys : List V} {ds es : List PyData} (h : (¬ M0 a ∧ H0 a = some (.tup xs)) ∨ KTup G.K a xs) (t : AtL G M0 H0 xs ds) (h' : (¬ M0 b ∧ H0 b = some (.tup ys)) ∨ KTup G.K b ys) (t' : AtL G M0 H0 ys es) : Wk G M0 H0 (ds.zipWith (fun x y => .tuple [x, y]) es) (RZ.ItzT G.K a b) where
  go := fun i M H f hi => by
    rw [List.length_zipWith, ← t.length, ← t'.length] at hi
    have h1 : i < xs.length := by omega
    have h2 : i < ys.length := by omega
    exact ⟨xs, ys, xs[i], ys[i], sq_fut f h, sq_fut f h', List.getElem?_eq_getElem h1, List.getElem?_eq_getElem h2⟩
  stop := fun M H f => ⟨xs, ys, sq_fut f h, sq_fut f h', by rw [List.length_zipWith, t.length, t'.length]; omega⟩
  yld := fun i M H v H2 d f tr hd y => by
    obtain ⟨T, x, z, rfl, hT, rfl, y1, y2⟩ := y
    obtain ⟨d1, d2, g1, g2, rfl⟩ := zw_get hd
    obtain ⟨w, e1, a1⟩ := t.get g1
    obtain ⟨w', e2, a2⟩ := t'.get g2
    have q1 := y1 xs (sq_fut f h)
    have q2 := y2 ys (sq_fut f h')
    rw [e1] at q1
    rw [e2] at q2
    cases q1
    cases q2
    exact ⟨same_upd hT, At.newT tr hT (.cons (a1.fut f) (.cons (a2.fut f) .nil)) (show 2 ≤ SL by decide)⟩
theorem wk_rng {lo : Int} {n : Nat} : Wk G M0 H0 ((List.range n).map fun (k : Nat) => PyData.int (lo + k)) (Itr lo n) where
  go := fun i M H f hi => (show i < n by simpa using hi)
  stop := fun M H f => by show n ≤ _; simp
  yld := fun i M H v H2 d f tr hd y => by
    obtain ⟨rfl, rfl⟩ := y
    rw [List.getElem?_map] at hd
    obtain ⟨k, hk, rfl⟩ := Option.map_eq_some_iff.mp hd
    have : k = i := by
      obtain ⟨h1, h2⟩ := List.getElem?_eq_some_iff.mp hk
      simpa using h2.symm
    subst this
    exact ⟨Same.refl, .int _⟩
theorem AtD.at : ∀ {xs : List (NestedKey × Addr × Value)} {kvs : List (PyData × PyData)} {i : Nat} {k : NestedKey} {b : Addr} {u : Value}, AtD G M0 H0 xs kvs → xs[i]? = some (k, b, u) → At G M0 H0 (.ref b) k.data ∧ (kvs.map (·.1))[i]? = some k.data
  | _, _, _, _, _, _, .nil, h => by simp at h
  | _, _, 0, _, _, _, .cons a n r v t, h => by
    simp only [List.getElem?_cons_zero, Option.some.injEq, Prod.mk.injEq] at h
    obtain ⟨rfl, rfl, rfl⟩ := h
    exact ⟨a, rfl⟩
  | _, _, i + 1, k, b, u, .cons a n r v t, h => by
    have := AtD.at (i := i) (k := k) (b := b) (u := u) t (by simpa using h)
    exact ⟨this.1, by simpa using this.2⟩
theorem wk_dic {d : Addr} {xs : List (NestedKey × Addr × Value)} {kvs : List (PyData × PyData)} {ep : Nat} (n : ¬ M0 d) (h : H0 d = some (dicO G.P G.w d xs ep)) (t : AtD G M0 H0 xs kvs) : Wk G M0 H0 (kvs.map (·.1)) (Ikd G.P G.w d xs ep) where
  go := fun i M H f hi => ⟨(f _ _ n h).1, by rw [List.length_map] at hi; rw [t.length]; exact hi⟩
  stop := fun M H f => ⟨(f _ _ n h).1, by rw [List.length_map, t.length]; exact Nat.le_refl _⟩
  yld := fun i M H v H2 dd f tr hd y => by
    obtain ⟨rfl, k, b, u, hx, rfl⟩ := y
    obtain ⟨a1, a2⟩ := t.at hx
    rw [a2] at hd
    cases hd
    exact ⟨Same.refl, a1.fut f⟩
/-! ### the iterables of the text -/
theorem seqD_of {d : PyData} {ds : List PyData} (h : seqD d = some ds) : d = .list ds ∨ d = .tuple ds := by cases d <;> simp [seqD] at h <;> simp [h]
theorem pi_seq {t : TE} (h : PE X e t) : PI X tg e (fun σ H R => iList X.K t σ H R ∨ iTup X.K t σ H R) := piOr (pi_list h) (pi_tup h)
theorem lI_seq (σ : L2.St) (H : Hp) (R : It → Hp → Prop) (q : lI G F (fun Γ S => (f Γ S).bind fun p => (seqD p.1).map fun xs => (xs, p.2)) σ H R) : iList G.K (lE G F f) σ H R ∨ iTup G.K (lE G F f) σ H R := by
  obtain ⟨W, Γ, S, d, S', hF, Rp, e, k⟩ := q
  obtain ⟨p, e1, e⟩ := Option.bind_eq_some_iff.mp e
  obtain ⟨ds, e2, e⟩ := Option.map_eq_some_iff.mp e
  cases e
  rcases seqD_of e2 with e3 | e3
  · refine .inl ⟨W, Γ, S, p.1, p.2, hF, Rp, e1, fun v H1 k1 R1 a1 => ?_⟩
    rw [e3] at a1
    obtain ⟨a, xs, rfl, n, hh, t⟩ := a1.ls
    exact ⟨a, rfl, ⟨xs, .of hh⟩, k _ H1 k1 R1 (wk_list n hh t)⟩
  · refine .inr ⟨W, Γ, S, p.1, p.2, hF, Rp, e1, fun v H1 k1 R1 a1 => ?_⟩
    rw [e3] at a1
    obtain ⟨a, xs, rfl, hh, t⟩ := a1.sq
    exact ⟨a, rfl, ⟨xs, sqT_of hh⟩, k _ H1 k1 R1 (wk_tup hh t)⟩
def iEnA (K : PySem.W.Frag) (ta : TA) : TI := fun σ H R => ta σ H fun vs H1 => ∃ a xs, vs = [.ref a] ∧ SqT K H1 a xs ∧ R (IteT K a) H1
theorem pi_enumT {p pos tpos : Pos} {elts : List Expr} {kk : Nat} {ta : TA} (hg : Gl X "enumerate") (hm : X.mg "enumerate" = none) (ha : PA X [e] ta) (hs : starEach [e] X.env = [(false, eval e X.env)]) :
    PI X (.Tuple elts kk tpos) (.Call (.Name "enumerate" p) [e] [] pos) (iEnA X.K ta) := by
  refine ⟨fun pins s σ H R I h => Call_ (ld_blt I hg hm boot_enumerate (PyProof.Rows.callWith_type1 (thn (ha.run pos pins s σ H _ I h) fun us s1 ⟨vs, H1, I1, r1, a, xs, ex, hq, q⟩ => ?_) hs rfl))⟩
  subst ex
  rw [Vals.ref1 r1]
  obtain ⟨its, rv, pl, hz⟩ := I1.tuple hq
  refine enum_call1 (begins_tuple a its.toArray) (show s1.heap.IsTuple a its.toArray from pl) fun h' ie io k => wpAny_pyIter_enum ie ?_
  have I2 : Inv X pins σ H1 { s1 with heap := h' } := I1.kept (t' := s1.toks) k
  refine ⟨s1.heap.objs.size + 1, [s1.heap.objs.size + 1, s1.heap.objs.size], _, _, H1, rfl, I2, turn_enumT a (s1.heap.objs.size + 1) s1.heap.objs.size, ⟨⟨.none, ie⟩, ⟨_, io, rfl, rfl⟩, Nat.succ_ne_self _⟩, fun b hb => ?_, q⟩
  have hle : s1.heap.objs.size ≤ b := by
    rcases List.mem_cons.mp hb with z | z
    · subst z; exact Nat.le_succ _
    · rw [List.mem_singleton.mp z]; exact Nat.le_refl _
  exact I1.fpOk hle (I1.hok.fresh hle)
theorem lI_enum (σ : L2.St) (H : Hp) (R : It → Hp → Prop) (q : lI G F (fun Γ S => (f Γ S).bind fun p => (seqD p.1).map fun xs => (xs.mapIdx fun i x => .tuple [.int i, x], p.2)) σ H R) :
    iEnum G.K (tCons (lE G F f) tNil) σ H R ∨ iEnA G.K (tCons (lE G F f) tNil) σ H R := by
  obtain ⟨W, Γ, S, d, S', hF, Rp, e, k⟩ := q
  obtain ⟨p, e1, e⟩ := Option.bind_eq_some_iff.mp e
  obtain ⟨ds, e2, e⟩ := Option.map_eq_some_iff.mp e
  cases e
  rcases seqD_of e2 with e3 | e3
  · refine .inl ⟨W, Γ, S, p.1, p.2, hF, Rp, e1, fun v H1 k1 R1 a1 => ?_⟩
    rw [e3] at a1
    obtain ⟨a, xs, rfl, n, hh, t⟩ := a1.ls
    exact ⟨a, xs, rfl, .of hh, k _ H1 k1 R1 (wk_enL n hh t)⟩
  · refine .inr ⟨W, Γ, S, p.1, p.2, hF, Rp, e1, fun v H1 k1 R1 a1 => ?_⟩
    rw [e3] at a1
    obtain ⟨a, xs, rfl, hh, t⟩ := a1.sq
    exact ⟨a, xs, rfl, sqT_of hh, k _ H1 k1 R1 (wk_enT hh t)⟩
theorem lI_zip (σ : L2.St) (H : Hp) (R : It → Hp → Prop) (q : lI G F (fun Γ S => (f Γ S).bind fun p => (g Γ p.2).bind fun q => match p.1, q.1 with
    | .list xs, .list ys => some (xs.zipWith (fun x y => .tuple [x, y]) ys, q.2)
    | .tuple xs, .tuple ys => some (xs.zipWith (fun x y => .tuple [x, y]) ys, q.2)
    | _, _ => none) σ H R) : RZ.iZipA G.K (tCons (lE G F f) (tCons (lE G F g) tNil)) σ H R := by
  obtain ⟨W, Γ, S, d, S', hF, Rp, e, k⟩ := q
  obtain ⟨p, e1, e⟩ := Option.bind_eq_some_iff.mp e
  obtain ⟨q, e2, e⟩ := Option.bind_eq_some_iff.mp e
  refine ⟨W, Γ, S, p.1, p.2, hF, Rp, e1, fun v H1 k1 R1 a1 => ⟨W, Γ, p.2, q.1, q.2, hF, R1, e2, fun u H2 k2 R2 a2 => ?_⟩⟩
  have a1 := a1.fut (k2.fut R1)
  split at e
  · rename_i xs ys h1 h2
    cases e
    rw [h1] at a1
    rw [h2] at a2
    obtain ⟨a, vs, rfl, n, hh, t⟩ := a1.ls
    obtain ⟨b, us, rfl, n', hh', t'⟩ := a2.ls
    exact ⟨a, b, vs, us, rfl, .inl ⟨.of hh, .of hh', k _ H2 (k1.trans k2) R2 (wk_zpL n hh t n' hh' t')⟩⟩
  · rename_i xs ys h1 h2
    cases e
    rw [h1] at a1
    rw [h2] at a2
    obtain ⟨a, vs, rfl, hh, t⟩ := a1.sq
    obtain ⟨b, us, rfl, hh', t'⟩ := a2.sq
    exact ⟨a, b, vs, us, rfl, .inr ⟨sqT_of hh, sqT_of hh', k _ H2 (k1.trans k2) R2 (wk_zpT hh t hh' t')⟩⟩
  · cases e
theorem lI_rng1 (σ : L2.St) (H : Hp) (R : It → Hp → Prop) (q : lI G F (fun Γ S => (f Γ S).bind fun p => (rgD [p.1]).map fun xs => (xs, p.2)) σ H R) : iRng1 (tCons (lE G F f) tNil) σ H R := by
  obtain ⟨W, Γ, S, d, S', hF, Rp, e, k⟩ := q
  obtain ⟨p, e1, e⟩ := Option.bind_eq_some_iff.mp e
  obtain ⟨ds, e2, e⟩ := Option.map_eq_some_iff.mp e
  cases e
  refine ⟨W, Γ, S, p.1, p.2, hF, Rp, e1, fun v H1 k1 R1 a1 => ?_⟩
  obtain ⟨d0, S0⟩ := p
  unfold rgD at e2
  split at e2
  · rename_i j hj
    have hj : d0 = .int j := by simpa using hj
    subst hj
    by_cases z : -(2 ^ 62) ≤ j ∧ j ≤ 16777216
    · rw [if_pos z] at e2
      have ed := Option.some.inj e2
      subst ed
      have wk := wk_rng (G := G) (M0 := W.M) (H0 := H1) (lo := 0) (n := j.toNat)
      simp only [Int.zero_add] at wk
      exact ⟨j, by rw [a1.int_of], z.1, by omega, k _ H1 k1 R1 wk⟩
    · rw [if_neg z] at e2
      cases e2
  · rename_i h; simp at h
  · cases e2
theorem lI_rng2 (σ : L2.St) (H : Hp) (R : It → Hp → Prop) (q : lI G F (fun Γ S => (f Γ S).bind fun p => (g Γ p.2).bind fun q => (rgD [p.1, q.1]).map fun xs => (xs, q.2)) σ H R) : iRng2 (tCons (lE G F f) (tCons (lE G F g) tNil)) σ H R := by
  obtain ⟨W, Γ, S, d, S', hF, Rp, e, k⟩ := q
  obtain ⟨p, e1, e⟩ := Option.bind_eq_some_iff.mp e
  obtain ⟨q, e3, e⟩ := Option.bind_eq_some_iff.mp e
  obtain ⟨ds, e2, e⟩ := Option.map_eq_some_iff.mp e
  cases e
  refine ⟨W, Γ, S, p.1, p.2, hF, Rp, e1, fun v H1 k1 R1 a1 => ⟨W, Γ, p.2, q.1, q.2, hF, R1, e3, fun v2 H2 k2 R2 a2 => ?_⟩⟩
  obtain ⟨d0, S0⟩ := p
  obtain ⟨d1, S1⟩ := q
  unfold rgD at e2
  split at e2
  · rename_i h; simp at h
  · rename_i i j hj
    have hj : d0 = .int i ∧ d1 = .int j := by simpa using hj
    obtain ⟨rfl, rfl⟩ := hj
    by_cases z : -(2 ^ 62) ≤ i ∧ i < 2 ^ 62 ∧ -(2 ^ 62) ≤ j ∧ j < 2 ^ 62 ∧ j - i ≤ 16777216
    · rw [if_pos z] at e2
      have ed := Option.some.inj e2
      subst ed
      exact ⟨i, j, by rw [a1.int_of, a2.int_of], ⟨z.1, z.2.1, z.2.2.1, z.2.2.2.1⟩, k _ H2 (k1.trans k2) R2 wk_rng⟩
    · rw [if_neg z] at e2
      cases e2
  · cases e2
def iDic (P : Program) (w : World) (td : TE) : TI := fun σ H R => td σ H fun x H1 => ∃ d xs ep, x = .ref d ∧ (d == sysModules) = false ∧ H1 d = some (dicO P w d xs ep) ∧ R (Ikd P w d xs ep) H1
theorem pi_dic {t : TE} (h : PE X e t) : PI X tg e (iDic X.prog X.w t) := by
  refine ⟨fun pins s σ H R I hq => thn (h.run pins s σ H _ I hq) fun u s1 ⟨x, H1, I1, rx, d, xs, ep, ex, hs, hd, q⟩ => ?_⟩
  subst ex
  obtain rfl : u = Value.ref d := rx
  obtain ⟨es, hr, hz, _⟩ := dic_raw I1 hd
  refine wpAny_pyIter_dict_raw hs hr (pi_one (tk := s1.toks) I1 _ (turn_dic _) ⟨_, Heap.get?_push_size _ rfl, rfl, ?_⟩ q)
  rw [hz]
  rfl
theorem lI_dic (σ : L2.St) (H : Hp) (R : It → Hp → Prop) (q : lI G F (fun Γ S => (f Γ S).bind fun p => match p.1 with
    | .dict kvs => some (kvs.map (·.1), p.2)
    | _ => none) σ H R) : iDic G.P G.w (lE G F f) σ H R := by
  obtain ⟨W, Γ, S, d, S', hF, Rp, e, k⟩ := q
  obtain ⟨p, e1, e⟩ := Option.bind_eq_some_iff.mp e
  refine ⟨W, Γ, S, p.1, p.2, hF, Rp, e1, fun v H1 k1 R1 a1 => ?_⟩
  split at e
  · rename_i kvs h1
    cases e
    rw [h1] at a1
    cases a1 with
    | dic n hs hh nd z t => exact ⟨_, _, _, rfl, hs, hh, k _ H1 k1 R1 (wk_dic n hh t)⟩
  · cases e
end
end K26
namespace K26
open PySem PySem.Spec PyProof.Rows L2 PySem.W PySem.SeqAt

/-! ### slots forgotten -/
section
variable {G : Gl0} {W : Wx} {H H' : Hp} {σ : L2.St} {Γ : Gm} {S S' : Pl}
theorem wipeG_some {i : Nat} {x : Sl} : ∀ {vs : List Nat}, (wipeG Γ vs)[i]? = some (some x) → Γ[i]? = some (some x) ∧ i ∉ vs
  | [], h => ⟨h, by simp⟩
  | v :: vs, h => by
    unfold wipeG at h
    by_cases e : v = i
    · subst e
      by_cases l : v < (wipeG Γ vs).length
      · rw [List.getElem?_set_self l] at h; cases h
      · rw [List.getElem?_eq_none (by simpa using l)] at h; cases h
    · rw [List.getElem?_set_ne e] at h
      obtain ⟨h1, h2⟩ := wipeG_some h
      exact ⟨h1, by simp [h2, Ne.symm e]⟩
theorem wipeG_length : ∀ vs : List Nat, (wipeG Γ vs).length = Γ.length
  | [] => rfl
  | v :: vs => by unfold wipeG; rw [List.length_set, wipeG_length vs]
theorem Rep.weaken {σ' : L2.St} {Γ' : Gm} (R : Rep G W H σ Γ S) (hl : σ'.length = Γ'.length) (w : ∀ (i : Nat) (x : Sl), Γ'[i]? = some (some x) → Γ[i]? = some (some x) ∧ σ'[i]? = σ[i]?) : Rep G W H σ' Γ' S := by
  have ow' : ∀ {i}, OwnAt Γ' i → OwnAt Γ i := fun {i} ⟨s, h, z⟩ => ⟨s, (w i s h).1, z⟩
  refine ⟨R.trk, R.sub, R.acs, hl, fun i x h => ?_, fun i h => ?_, fun i h => ?_, R.kept, ?_, R.pool⟩
  · obtain ⟨v, e, a⟩ := R.dat i x (w i _ h).1
    exact ⟨v, by rw [(w i _ h).2]; exact e, a⟩
  · obtain ⟨p, e1, e2⟩ := R.pol i (w i _ h).1
    exact ⟨p, e1, by rw [(w i _ h).2]; exact e2⟩
  · obtain ⟨p, e1, e2⟩ := R.fns i (w i _ h).1
    exact ⟨p, e1, by rw [(w i _ h).2]; exact e2⟩
  · obtain ⟨ow, h1, h2, h3, h4⟩ := R.own
    refine ⟨ow, fun i h => h1 i (ow' h), fun i j a b => h2 i j (ow' a) (ow' b), fun i xs h => ?_, fun i xs h => ?_⟩
    · rw [(w i _ h).2]; exact h3 i xs (w i _ h).1
    · rw [(w i _ h).2]; exact h4 i xs (w i _ h).1
theorem wipe_out' {σ : L2.St} {i : Nat} : ∀ {vs : List Nat}, i ∉ vs → (wipe σ vs)[i]? = σ[i]?
  | [], _ => rfl
  | v :: vs, h => by
    unfold wipe
    rw [List.getElem?_set_ne (fun e => h (by simp [e]))]
    exact wipe_out' fun z => h (List.mem_cons_of_mem _ z)
theorem Rep.wipe (R : Rep G W H σ Γ S) (vs : List Nat) : Rep G W H (L2.wipe σ vs) (wipeG Γ vs) S :=
  R.weaken (by rw [wipe_length, wipeG_length]; exact R.len) fun i x h => ⟨(wipeG_some h).1, wipe_out' (wipeG_some h).2⟩
/-! ### one more object that is avoided -/
def Wx.add (W : Wx) (p : Addr) : Wx := { W with M := fun a => W.M a ∨ a = p, ac := fun a => W.ac a ∨ a = p }
theorem Wx.add_C {p : Addr} : (W.add p).C = W.C := rfl
theorem PoolAt.less {p : Addr} (q : PoolAt G (W.add p) H S) : PoolAt G W H S := by
  unfold PoolAt at q ⊢
  cases h : W.pl with
  | none =>
    have : (W.add p).pl = none := h
    rw [this] at q
    exact q
  | some p0 =>
    have : (W.add p).pl = some p0 := h
    rw [this] at q
    obtain ⟨vs, z1, z2⟩ := q.at_
    exact ⟨q.base, q.tabs, q.tb, ⟨vs, z1, z2.fut (.less fun a h => .inl h)⟩, q.z, q.tt⟩
theorem fut_add {p : Addr} (R : Rep G W H σ Γ S) (hp : H p = none) (k : Keep W H H') : Fut W.M (W.add p).M H H' := fun a o n h =>
  ⟨(k.fut R a o n h).1, fun z => z.elim n fun e => by rw [e, hp] at h; cases h⟩
theorem Rep.add {p : Addr} (R : Rep G W H σ Γ S) (hp : H p = none) (k : Keep W H H') (ex : ∃ o, H' p = some o) (q : PoolAt G (W.add p) H' S') : Rep G (W.add p) H' σ Γ S' := by
  have f := fut_add R hp k
  have np : ∀ {a}, W.M a → a ≠ p := fun m e => by
    obtain ⟨o, h⟩ := R.trk _ m
    rw [e, hp] at h; cases h
  refine ⟨fun a h => ?_, fun a h => .inl (R.sub a h), fun a h => h.imp (R.acs a) id, R.len, fun i x h => let ⟨v, e, a⟩ := R.dat i x h; ⟨v, e, a.fut f⟩, R.pol, R.fns, fun t ht => ?_, ?_, q⟩
  · rcases h with h | h
    · by_cases c : W.C a
      · exact q.tk a c
      · obtain ⟨o, e⟩ := R.trk a h
        exact ⟨o, k a o c e⟩
    · rw [h]; exact ex
  · obtain ⟨h1, h2⟩ := R.kept t ht
    exact ⟨(f _ _ h1 h2).2, (f _ _ h1 h2).1⟩
  · obtain ⟨ow, h1, h2, h3, h4⟩ := R.own
    have nc : ∀ {i}, OwnAt Γ i → ¬ W.C (ow i) := fun h c => (h1 _ h).2.1 (Wx.C_base R c)
    refine ⟨ow, fun i h => ⟨.inl (h1 i h).1, (h1 i h).2.1, fun z => z.elim (h1 i h).2.2 (np (h1 i h).1)⟩, h2, fun i xs h => ?_, fun i xs h => ?_⟩
    · obtain ⟨q1, q2, vs, q3, q4⟩ := h3 i xs h
      exact ⟨q1, q2, vs, k _ _ (nc ⟨_, h, rfl⟩) q3, q4.fut f⟩
    · obtain ⟨q1, q2, q3, vs, q4, q5, q6⟩ := h4 i xs h
      exact ⟨q1, q2, q3, vs, let ⟨ep, q4⟩ := q4; ⟨ep, k _ _ (nc ⟨_, h, rfl⟩) q4⟩, q5, q6.fut f⟩
theorem PoolAt.add {p : Addr} (q : PoolAt G W H S) (hp : H p = none) (e : Same H H') : PoolAt G (W.add p) H' S := by
  unfold PoolAt at q ⊢
  cases h : W.pl with
  | none =>
    rw [h] at q
    have : (W.add p).pl = none := h
    rw [this]
    exact q
  | some p0 =>
    rw [h] at q
    have : (W.add p).pl = some p0 := h
    rw [this]
    obtain ⟨vs, z1, z2⟩ := q.at_
    exact ⟨q.base, q.tabs.ext e, q.tb, ⟨vs, e _ _ z1, z2.fut fun a o n h => ⟨e a o h, fun z => z.elim n fun z => by rw [z, hp] at h; cases h⟩⟩, q.z, q.tt⟩
end
/-! ### targets -/
def lG (G : Gl0) (F : Fx) (tg : Tg) : TG := fun v σ H Q => ∃ W Γ S d Γ' S', W.F = F ∧ Rep G W H σ Γ S ∧ At G W.M H v d ∧ bindG tg d Γ S = some (Γ', S') ∧
  ∀ σ' H', Keep W H H' → Rep G W H' σ' Γ' S' → (∀ i, i ∉ slotsG tg → σ'[i]? = σ[i]?) → Q σ' H'
def lGs (G : Gl0) (F : Fx) (tg : Tgs) : TGs := fun vs σ H Q => ∃ W Γ S ds Γ' S', W.F = F ∧ Rep G W H σ Γ S ∧ AtL G W.M H vs ds ∧ bindGs tg ds Γ S = some (Γ', S') ∧
  ∀ σ' H', Keep W H H' → Rep G W H' σ' Γ' S' → (∀ i, i ∉ slotsGs tg → σ'[i]? = σ[i]?) → Q σ' H'
section
variable {X : Cx} {F : Fx} {G : Gl0}
theorem pgW {e : Expr} {t t' : TG} (h : PG X e t) (w : ∀ v σ H Q, t' v σ H Q → t v σ H Q) : PG X e t' := ⟨fun pins s σ H v u Q I r q => h.run pins s σ H v u Q I r (w v σ H Q q)⟩
theorem pgsW {e : List Expr} {t t' : TGs} (h : PGs X e t) (w : ∀ v σ H Q, t' v σ H Q → t v σ H Q) : PGs X e t' := ⟨fun pins s σ H v u Q I r q => h.run pins s σ H v u Q I r (w v σ H Q q)⟩
theorem lG_nm {i : Nat} (v : V) (σ : L2.St) (H : Hp) (Q : L2.St → Hp → Prop) (q : lG G F (.nm i) v σ H Q) : gName i v σ H Q := by
  obtain ⟨W, Γ, S, d, Γ', S', hF, R, a, e, k⟩ := q
  have e : (if i < Γ.length then some (Γ.set i (some (.d d)), S) else none) = some (Γ', S') := e
  split at e
  · cases e
    exact k _ H .refl (R.set a) fun j hj => List.getElem?_set_ne (fun z => hj (by simp [slotsG, z]))
  · cases e
theorem lGs_nil (vs : List V) (σ : L2.St) (H : Hp) (Q : L2.St → Hp → Prop) (q : lGs G F .nil vs σ H Q) : gNil vs σ H Q := by
  obtain ⟨W, Γ, S, ds, Γ', S', hF, R, a, e, k⟩ := q
  cases ds with
  | nil =>
    have e : some (Γ, S) = some (Γ', S') := e
    cases e
    cases a
    exact ⟨rfl, k σ H .refl R fun _ _ => rfl⟩
  | cons => exact absurd e (by intro z; cases z)
theorem lGs_cons {g : Tg} {gs : Tgs} (vs : List V) (σ : L2.St) (H : Hp) (Q : L2.St → Hp → Prop) (q : lGs G F (.cons g gs) vs σ H Q) : gCons (lG G F g) (lGs G F gs) vs σ H Q := by
  obtain ⟨W, Γ, S, ds, Γ', S', hF, R, a, e, k⟩ := q
  cases ds with
  | nil => exact absurd e (by intro z; cases z)
  | cons d ds =>
    have e : ((bindG g d Γ S).bind fun p => bindGs gs ds p.1 p.2) = some (Γ', S') := e
    obtain ⟨p, e1, e2⟩ := Option.bind_eq_some_iff.mp e
    cases a with
    | cons a t =>
      exact ⟨_, _, rfl, W, Γ, S, d, p.1, p.2, hF, R, a, e1, fun σ1 H1 k1 R1 s1 => ⟨W, p.1, p.2, ds, Γ', S', hF, R1, t.fut (k1.fut R), e2, fun σ2 H2 k2 R2 s2 =>
        k σ2 H2 (k1.trans k2) R2 fun i hi => (s2 i fun z => hi (by simp [slotsGs, z])).trans (s1 i fun z => hi (by simp [slotsGs, z]))⟩⟩
theorem lG_tp {gs : Tgs} {n : Nat} (hn : ∀ ds Γ S p, bindGs gs ds Γ S = some p → ds.length = n) (v : V) (σ : L2.St) (H : Hp) (Q : L2.St → Hp → Prop) (q : lG G F (.tp gs) v σ H Q) : gTup G.K n (lGs G F gs) v σ H Q := by
  obtain ⟨W, Γ, S, d, Γ', S', hF, R, a, e, k⟩ := q
  cases d with
  | tuple xs =>
    have e : bindGs gs xs Γ S = some (Γ', S') := e
    obtain ⟨p, vs, rfl, hh, t⟩ := a.sq
    exact ⟨p, vs, rfl, sqT_of hh, by rw [t.length]; exact hn _ _ _ _ e, W, Γ, S, xs, Γ', S', hF, R, t, e, k⟩
  | _ => exact absurd e (by intro z; cases z)
/-- pool[k] = v -/
theorem Rep.putP {W : Wx} {H : Hp} {σ : L2.St} {Γ : Gm} {S : Pl} {p : Addr} {k : Nat} {v : V} {d : PyData} (R : Rep G W H σ Γ S) (hp : W.pl = some p) (hk : k < S.length) (a : At G W.M H v d) :
    ∃ vs, H p = some (.lst vs) ∧ ixN vs.length (k : Int) = some k ∧ Keep W H (upd H p (.lst (vs.set k v))) ∧ Rep G W (upd H p (.lst (vs.set k v))) σ Γ (S.set k d) := by
  have q := R.pool
  unfold PoolAt at q
  rw [hp] at q
  obtain ⟨vs, z1, z2⟩ := q.at_
  have mp : W.M p := R.sub _ q.base
  have cp : W.C p := by unfold Wx.C; rw [hp]; exact .inl rfl
  have f : Fut W.M W.M H (upd H p (.lst (vs.set k v))) := fun b o n h => ⟨by rw [upd_ne (fun e => n (by rw [e]; exact mp))]; exact h, n⟩
  have kp : Keep W H (upd H p (.lst (vs.set k v))) := fun b o n h => by rw [upd_ne (fun e => n (by rw [e]; exact cp))]; exact h
  refine ⟨vs, z1, ?_, kp, R.keep kp ?_⟩
  · unfold ixN
    have := z2.length
    rw [if_pos (by omega), if_pos (by omega)]
    simp
  · unfold PoolAt
    rw [hp]
    refine ⟨q.base, fun t ht => ?_, q.tb, ⟨_, upd_same, (z2.set a k).fut f⟩, by rw [List.length_set]; exact q.z, q.tt⟩
    obtain ⟨ps, t1, t2, t3⟩ := q.tabs t ht
    have ne : ∀ {b o}, H b = some o → (∀ xs, o ≠ .lst xs) → b ≠ p := fun {b o} h n e => by rw [e, z1] at h; cases h; exact n _ rfl
    refine ⟨ps, by rw [upd_ne (ne t1 fun _ z => nomatch z)]; exact t1, t2, fun pos cv hc => ?_⟩
    obtain ⟨c, e1, e2⟩ := t3 pos cv hc
    exact ⟨c, e1, by rw [upd_ne (ne e2 fun xs z => by unfold LamX.CodeO at z; cases z)]; exact e2⟩
theorem lG_sb {i n : Nat} (v : V) (σ : L2.St) (H : Hp) (Q : L2.St → Hp → Prop) (q : lG G F (.sb i n) v σ H Q) : gSub (tVar i) (tC (.int n)) L2.rSetL v σ H Q := by
  obtain ⟨W, Γ, S, d, Γ', S', hF, R, a, e, k⟩ := q
  have e : (match Γ[i]? with
    | some (some .pool) => if n < S.length then some (Γ, S.set n d) else none
    | _ => none) = some (Γ', S') := e
  split at e
  · rename_i hi
    split at e
    · rename_i hn
      cases e
      obtain ⟨p, e1, e2⟩ := R.pol i hi
      obtain ⟨vs, z1, z2, kp, R'⟩ := R.putP e1 hn a
      exact ⟨.ref p, e2, p, vs, n, n, rfl, rfl, z1, z2, k _ _ kp R' fun _ _ => rfl⟩
    · cases e
  · cases e
end
end K26
namespace K26
open PySem PySem.Spec PyProof.Rows L2 PySem.W PySem.SeqAt

section
variable {G : Gl0} {W : Wx} {H H' : Hp} {σ : L2.St} {Γ : Gm} {S S' : Pl} {D : Addr}
/-- all but what may change and the list at D stays -/
def KeepD (W : Wx) (D : Addr) (H H' : Hp) : Prop := ∀ a o, ¬ W.C a → a ≠ D → H a = some o → H' a = some o
theorem Keep.d (k : Keep W H H') : KeepD W D H H' := fun a o n _ h => k a o n h
theorem KeepD.trans {H1 : Hp} (a : KeepD W D H H1) (b : KeepD W D H1 H') : KeepD W D H H' := fun c o n m h => b c o n m (a c o n m h)
theorem KeepD.upd {o' : HO} (k : KeepD W D H H') : KeepD W D H (upd H' D o') := fun a o n m h => by rw [upd_ne m]; exact k a o n m h
theorem KeepD.fut (R : Rep G W H σ Γ S) (hD : W.M D) (k : KeepD W D H H') : Fut W.M W.M H H' := fun a o n h => ⟨k a o (fun c => n (R.cm a c)) (fun e => n (by rw [e]; exact hD)) h, n⟩
theorem Rep.keepD (R : Rep G W H σ Γ S) (hD : W.ac D) (k : KeepD W D H H') (ex : ∃ o, H' D = some o) (q : PoolAt G W H' S') : Rep G W H' σ Γ S' := by
  have f : Fut W.M W.M H H' := k.fut R (R.acs D hD)
  have nc : ∀ {a}, ¬ W.base a → ¬ W.C a := fun n c => n (Wx.C_base R c)
  refine ⟨fun a h => ?_, R.sub, R.acs, R.len, fun i x h => let ⟨v, q, a⟩ := R.dat i x h; ⟨v, q, a.fut f⟩, R.pol, R.fns, fun p hp => ⟨(R.kept p hp).1, (f _ _ (R.kept p hp).1 (R.kept p hp).2).1⟩, ?_, q⟩
  · by_cases c : W.C a
    · exact q.tk a c
    · by_cases e : a = D
      · rw [e]; exact ex
      · obtain ⟨o, h⟩ := R.trk a h
        exact ⟨o, k a o c e h⟩
  · obtain ⟨ow, h1, h2, h3, h4⟩ := R.own
    have nD : ∀ {i}, OwnAt Γ i → ow i ≠ D := fun h e => (h1 _ h).2.2 (by rw [e]; exact hD)
    refine ⟨ow, h1, h2, fun i xs h => ?_, fun i xs h => ?_⟩
    · obtain ⟨q1, q2, vs, q3, q4⟩ := h3 i xs h
      exact ⟨q1, q2, vs, k _ _ (nc (h1 i ⟨_, h, rfl⟩).2.1) (nD ⟨_, h, rfl⟩) q3, q4.fut f⟩
    · obtain ⟨q1, q2, q3, vs, q4, q5, q6⟩ := h4 i xs h
      exact ⟨q1, q2, q3, vs, let ⟨ep, q4⟩ := q4; ⟨ep, k _ _ (nc (h1 i ⟨_, h, rfl⟩).2.1) (nD ⟨_, h, rfl⟩) q4⟩, q5, q6.fut f⟩
/-- the list at D grows -/
theorem PoolAt.grow {acc acc' : List V} (q : PoolAt G W H S) (hM : W.M D) (nb : ¬ W.base D) (h : H D = some (.lst acc)) : PoolAt G W (upd H D (.lst acc')) S := by
  unfold PoolAt at q ⊢
  cases e : W.pl with
  | none => rw [e] at q; exact q
  | some p0 =>
    rw [e] at q
    obtain ⟨vs, z1, z2⟩ := q.at_
    have ne : ∀ {b o}, H b = some o → (∀ xs, o ≠ .lst xs) → b ≠ D := fun {b o} hb n z => by rw [z, h] at hb; cases hb; exact n _ rfl
    have f : Fut W.M W.M H (upd H D (.lst acc')) := fun b o n hb => ⟨by rw [upd_ne (fun z => n (by rw [z]; exact hM))]; exact hb, n⟩
    refine ⟨q.base, fun t ht => ?_, q.tb, ⟨vs, by rw [upd_ne (fun z => nb (by rw [← z]; exact q.base))]; exact z1, z2.fut f⟩, q.z, q.tt⟩
    obtain ⟨ps, t1, t2, t3⟩ := q.tabs t ht
    refine ⟨ps, by rw [upd_ne (ne t1 fun _ z => nomatch z)]; exact t1, t2, fun pos cv hc => ?_⟩
    obtain ⟨c, e1, e2⟩ := t3 pos cv hc
    exact ⟨c, e1, by rw [upd_ne (ne e2 fun xs z => by unfold LamX.CodeO at z; cases z)]; exact e2⟩
end
/-- a comprehension's walk that has come to i, the new list at D holding acc -/
structure At_ (G : Gl0) (W : Wx) (D : Addr) (H0 : Hp) (f : PyData → Pl → Option (List PyData × Pl)) (ds : List PyData) (q : List PyData × Pl) (i : Nat) (H : Hp) : Prop where
  le : i ≤ ds.length
  st : ∃ acc es S, H D = some (.lst acc) ∧ AtL G W.M H acc es ∧ es.length ≤ SL ∧ PoolAt G W H S ∧ lcRun f (ds.drop i) S es = some q
  kp : KeepD W D H0 H
section
variable {G : Gl0} {F : Fx} {W : Wx} {H0 : Hp} {σ : L2.St} {Γ : Gm} {S0 : Pl} {D : Addr} {f : PyData → Pl → Option (List PyData × Pl)} {ds : List PyData} {q : List PyData × Pl} {J : It}
/-- one turn: the item is bound, tested, its element made -/
theorem lcRun_cons {x : PyData} {xs : List PyData} {S : Pl} {acc : List PyData} : lcRun f (x :: xs) S acc = (f x S).bind fun p => if acc.length + p.1.length ≤ SL then lcRun f xs p.2 (acc ++ p.1) else none := rfl
theorem wipe_ext {σ σ' : L2.St} : ∀ (vs : List Nat), σ.length = σ'.length → (∀ i, i ∉ vs → σ'[i]? = σ[i]?) → L2.wipe σ' vs = L2.wipe σ vs := fun vs hl h => by
  apply List.ext_getElem?
  intro i
  by_cases hi : i ∈ vs
  · have key : ∀ (τ : L2.St) (us : List Nat), i ∈ us → (L2.wipe τ us)[i]? = if i < τ.length then some none else none := by
      intro τ us
      induction us with
      | nil => intro h; cases h
      | cons u us ih =>
        intro h
        unfold L2.wipe
        by_cases e : u = i
        · subst e
          rw [List.getElem?_set, if_pos rfl, wipe_length]
        · rw [List.getElem?_set_ne e]
          exact ih ((List.mem_cons.mp h).elim (fun z => absurd z.symm e) id)
    rw [key σ' vs hi, key σ vs hi, hl]
  · rw [wipe_out' hi, wipe_out' hi]
    exact h i hi
theorem wipe_idem (σ : L2.St) (vs : List Nat) : L2.wipe (L2.wipe σ vs) vs = L2.wipe σ vs := wipe_ext vs (wipe_length σ vs).symm fun i hi => wipe_out' hi
end
section
variable {G : Gl0} {F : Fx} {it it1 : Gm → Pl → Option (List PyData × Pl)} {cnd cnd1 : Gm → Pl → Option (Bool × Pl)} {el : Gm → Pl → Re} {tg tg1 : Tg} {own own1 : List Nat}
mutual
theorem bindG_len : ∀ (g : Tg) (x : PyData) (Γ : Gm) (S : Pl) (p : Gm × Pl), bindG g x Γ S = some p → p.1.length = Γ.length
  | .nm i, x, Γ, S, p, h => by
    have h : (if i < Γ.length then some (Γ.set i (some (.d x)), S) else none) = some p := h
    split at h
    · cases h; exact List.length_set
    · cases h
  | .tp gs, x, Γ, S, p, h => by
    cases x with
    | tuple xs => exact bindGs_len gs xs Γ S p h
    | _ => exact absurd h (by intro z; cases z)
  | .sb i k, x, Γ, S, p, h => by
    have h : (match Γ[i]? with
      | some (some .pool) => if k < S.length then some (Γ, S.set k x) else none
      | _ => none) = some p := h
    split at h
    · split at h
      · cases h; rfl
      · cases h
    · cases h
theorem bindGs_len : ∀ (g : Tgs) (x : List PyData) (Γ : Gm) (S : Pl) (p : Gm × Pl), bindGs g x Γ S = some p → p.1.length = Γ.length
  | .nil, x, Γ, S, p, h => by
    cases x with
    | nil =>
      have h : some (Γ, S) = some p := h
      cases h
      rfl
    | cons => exact absurd h (by intro z; cases z)
  | .cons g gs, x, Γ, S, p, h => by
    cases x with
    | nil => exact absurd h (by intro z; cases z)
    | cons d ds =>
      have h : ((bindG g d Γ S).bind fun p => bindGs gs ds p.1 p.2) = some p := h
      obtain ⟨r, h1, h2⟩ := Option.bind_eq_some_iff.mp h
      exact (bindGs_len gs ds r.1 r.2 p h2).trans (bindG_len g d Γ S r h1)
end
/-- what a turn gives, where the turn ends with an element or none -/
def turnE (el : Gm → Pl → Re) (cnd : Gm → Pl → Option (Bool × Pl)) (tg : Tg) (own : List Nat) (Γ : Gm) (x : PyData) (S : Pl) : Option (List PyData × Pl) :=
  (bindG tg x (wipeG Γ own) S).bind fun b => (cnd b.1 b.2).bind fun t => cond t.1 ((el b.1 t.2).bind fun y => some ([y.1], y.2)) (some ([], t.2))
theorem slots_eq {σ σ2 : L2.St} {own : List Nat} {tg : Tg} (hs : ∀ i ∈ slotsG tg, i ∈ own) (hl : σ.length = σ2.length) (s : ∀ i, i ∉ slotsG tg → σ2[i]? = (L2.wipe σ own)[i]?) : L2.wipe σ2 own = L2.wipe σ own :=
  wipe_ext own hl fun i hi => (s i fun z => hi (hs i z)).trans (wipe_out' hi)
/-- the loop of a comprehension whose turns give an element or none -/
theorem loopE (hs : ∀ i ∈ slotsG tg, i ∈ own) {W : Wx} {H0 : Hp} {σ : L2.St} {Γ : Gm} {S0 : Pl} {D : Addr} {ds : List PyData} {q : List PyData × Pl} {J : It} {Qd : Hp → Prop} (hF : W.F = F) (R : Rep G W H0 σ Γ S0) (hD : W.ac D) (nb : ¬ W.base D) (wk : Wk G W.M H0 ds J)
    (hstart : At_ G W D H0 (turnE el cnd tg own Γ) ds q 0 H0) (hd : ∀ H, At_ G W D H0 (turnE el cnd tg own Γ) ds q ds.length H → Qd H) :
    ∃ Wf : Nat → Nat → Hp → Prop, (∃ m, Wf 0 m H0) ∧ ∀ i m H, Wf i m H → (J.stop i H ∧ Qd H) ∨ (J.go i H ∧ ∃ Nx : Hp → Prop, (∀ H', Nx H' → ∃ m', m' < m ∧ Wf (i + 1) m' H') ∧ ∀ x H', J.yld i H x H' → lG G F tg x (L2.wipe σ own) H' fun σ2 H2 => L2.wipe σ2 own = L2.wipe σ own ∧ lT G F cnd σ2 H2 fun b H3 =>
      if b = true then lE G F el σ2 H3 fun y H4 => ∃ acc, H4 D = some (.lst acc) ∧ acc.length < sizeLine ∧ Nx (upd H4 D (.lst (acc ++ [y]))) else Nx H3) := by
  refine ⟨fun i m H => m = ds.length - i ∧ At_ G W D H0 (turnE el cnd tg own Γ) ds q i H, ⟨_, rfl, hstart⟩, ?_⟩
  rintro i m H ⟨rfl, A⟩
  obtain ⟨acc, es, S, h1, h2, h3, h4, h5⟩ := A.st
  have R2 : Rep G W H σ Γ S := R.keepD hD A.kp ⟨_, h1⟩ h4
  have nC : ¬ W.C D := fun c => nb (Wx.C_base R c)
  have fu : Fut W.M W.M H0 H := A.kp.fut R (R.acs D hD)
  by_cases hi : i < ds.length
  · rw [List.drop_eq_getElem_cons hi, lcRun_cons] at h5
    obtain ⟨r, e1, e2⟩ := Option.bind_eq_some_iff.mp h5
    split at e2
    · rename_i hz
      refine .inr ⟨wk.go i W.M H fu hi, At_ G W D H0 (turnE el cnd tg own Γ) ds q (i + 1), fun H' A' => ⟨_, by omega, rfl, A'⟩, fun v H1 y => ?_⟩
      obtain ⟨s1, a1⟩ := wk.yld i W.M H v H1 ds[i] fu R2.tr (List.getElem?_eq_getElem hi) y
      unfold turnE at e1
      obtain ⟨b, e3, e1⟩ := Option.bind_eq_some_iff.mp e1
      obtain ⟨t, e4, e1⟩ := Option.bind_eq_some_iff.mp e1
      have R3 := (R2.same s1).wipe own
      refine ⟨W, wipeG Γ own, S, ds[i], b.1, b.2, hF, R3, a1, e3, fun σ2 H2 k2 R4 sl => ⟨slots_eq hs (by rw [R.len, R4.len, bindG_len _ _ _ _ _ e3, wipeG_length]) sl, W, b.1, b.2, t.1, t.2, hF, R4, e4, fun H3 k3 R5 => ?_⟩⟩
      have kk : KeepD W D H0 H3 := A.kp.trans ((Keep.same s1).d.trans (k2.d.trans k3.d))
      have hD3 : H3 D = some (.lst acc) := k3 _ _ nC (k2 _ _ nC (s1 _ _ h1))
      have fa : Fut W.M W.M H H3 := ((Keep.same s1).trans (k2.trans k3)).fut R2
      cases ht : t.1 with
      | false =>
        rw [ht] at e1
        cases e1
        simp only [Bool.false_eq_true, if_false]
        exact ⟨hi, ⟨acc, es, t.2, hD3, h2.fut fa, h3, R5.pool, by simpa using e2⟩, kk⟩
      | true =>
        rw [ht] at e1
        simp only [if_true]
        obtain ⟨y, e5, e1⟩ := Option.bind_eq_some_iff.mp e1
        cases e1
        refine ⟨W, b.1, t.2, y.1, y.2, hF, R5, e5, fun w H4 k4 R6 a6 => ⟨acc, k4 _ _ nC hD3, ?_, hi, ⟨acc ++ [w], es ++ [y.1], y.2, upd_same, ?_, ?_, R6.pool.grow (R.acs D hD) nb (k4 _ _ nC hD3), e2⟩, (kk.trans k4.d).upd⟩⟩
        · rw [h2.length, sl_eq]
          simp only [List.length_singleton] at hz
          omega
        · have fg : Fut W.M W.M H4 (upd H4 D (.lst (acc ++ [w]))) := fun a o n h => ⟨by rw [upd_ne (fun z => n (by rw [z]; exact R.acs D hD))]; exact h, n⟩
          exact (((h2.fut fa).fut (k4.fut R5)).append (.cons a6 .nil)).fut fg
        · rw [List.length_append]
          exact hz
    · cases e2
  · have e : i = ds.length := by have := A.le; omega
    subst e
    exact .inl ⟨wk.stop W.M H fu, hd H A⟩
theorem lE_lc (hs : ∀ i ∈ slotsG tg, i ∈ own) (σ : L2.St) (H : Hp) (Q : VK) (z : lE G F (fun Γ S => (it Γ S).bind fun p => (lcRun (turnE el cnd tg own Γ) p.1 p.2 []).bind fun q => some (.list q.1, q.2)) σ H Q) :
    tLc (lI G F it) (lG G F tg) (lT G F cnd) (lE G F el) own σ H Q := by
  obtain ⟨W, Γ, S, d, S', hF, R, e, k⟩ := z
  obtain ⟨p, e1, e⟩ := Option.bind_eq_some_iff.mp e
  obtain ⟨q, e2, e⟩ := Option.bind_eq_some_iff.mp e
  cases e
  refine ⟨W, Γ, S, p.1, p.2, hF, R, e1, fun J H1 k1 R1 wk D hD => ?_⟩
  have s0 : Same H1 (upd H1 D (.lst [])) := same_upd hD
  have q0 := R1.pool.add (H' := upd H1 D (.lst [])) hD s0
  have R2 : Rep G (W.add D) (upd H1 D (.lst [])) σ Γ p.2 := R1.add hD (.same s0) ⟨_, upd_same⟩ q0
  have f0 : Fut W.M (W.add D).M H1 (upd H1 D (.lst [])) := fut_add R1 hD (.same s0)
  have wk2 : Wk G (W.add D).M (upd H1 D (.lst [])) p.1 J := ⟨fun i M H f => wk.go i M H (f0.trans f), fun M H f => wk.stop M H (f0.trans f), fun i M H v H2 d f => wk.yld i M H v H2 d (f0.trans f)⟩
  have nb : ¬ W.base D := fun b => R1.tr.new hD (R1.sub D b)
  refine loopE (W := W.add D) hs hF R2 (.inr rfl) nb wk2 (q := q) ⟨Nat.zero_le _, ⟨[], [], p.2, upd_same, .nil, Nat.zero_le _, q0, by simpa using e2⟩, fun a o _ _ h => h⟩ fun H2 A => ?_
  obtain ⟨acc, es, S2, h1, h2, h3, h4, h5⟩ := A.st
  rw [List.drop_length] at h5
  have h5 : some (es, S2) = some q := h5
  cases h5
  have kp : Keep W H1 H2 := fun a o n h => A.kp a o n (ne_of_none h hD) (s0 a o h)
  exact k _ H2 (k1.trans kp) (R1.keep kp h4.less) (.lst (R1.tr.new hD) h1 (by rw [sl_eq]; exact h3) (h2.fut (.less fun a h => .inl h)))
theorem lcRun_acc {f : PyData → Pl → Option (List PyData × Pl)} : ∀ (ds : List PyData) (S : Pl) (a es r : List PyData) (S' : Pl), lcRun f ds S a = some (a ++ r, S') → es.length + r.length ≤ SL → lcRun f ds S (es) = some (es ++ r, S')
  | [], S, a, es, r, S', h, _ => by
    have h : some (a, S) = some (a ++ r, S') := h
    simp only [Option.some.injEq, Prod.mk.injEq] at h
    obtain ⟨h1, h2⟩ := h
    have : r = [] := by simpa using h1.symm
    subst this h2
    simp [lcRun]
  | d :: ds, S, a, es, r, S', h, hz => by
    rw [lcRun_cons] at h ⊢
    obtain ⟨p, e1, e2⟩ := Option.bind_eq_some_iff.mp h
    rw [e1]
    split at e2
    · rename_i hz2
      -- the rest of it
      have pre : ∀ (ds : List PyData) (S : Pl) (a : List PyData) (q : List PyData × Pl), lcRun f ds S a = some q → ∃ r, q.1 = a ++ r := by
        intro ds
        induction ds with
        | nil => intro S a q h; have h : some (a, S) = some q := h; cases h; exact ⟨[], by simp⟩
        | cons d ds ih =>
          intro S a q h
          rw [lcRun_cons] at h
          obtain ⟨p, _, h2⟩ := Option.bind_eq_some_iff.mp h
          split at h2
          · obtain ⟨r, hr⟩ := ih _ _ _ h2
            exact ⟨p.1 ++ r, by rw [hr, List.append_assoc]⟩
          · cases h2
      obtain ⟨r', hr'⟩ := pre _ _ _ _ e2
      have hr' : a ++ r = a ++ p.1 ++ r' := hr'
      rw [List.append_assoc, List.append_cancel_left_eq] at hr'
      subst hr'
      rw [List.length_append] at hz
      show (if es.length + p.1.length ≤ SL then lcRun f ds p.2 (es ++ p.1) else none) = _
      rw [if_pos (by omega), ← List.append_assoc]
      exact lcRun_acc ds p.2 (a ++ p.1) (es ++ p.1) r' S' (by rw [List.append_assoc]; exact e2) (by rw [List.length_append]; omega)
    · cases e2
def turn2 (el : Gm → Pl → Re) (cnd cnd1 : Gm → Pl → Option (Bool × Pl)) (tg tg1 : Tg) (it1 : Gm → Pl → Option (List PyData × Pl)) (own own1 : List Nat) (Γ : Gm) (x : PyData) (S : Pl) : Option (List PyData × Pl) :=
  (bindG tg x (wipeG Γ own) S).bind fun b => (cnd b.1 b.2).bind fun t => cond t.1 ((it1 b.1 t.2).bind fun p1 => lcRun (turnE el cnd1 tg1 own1 b.1) p1.1 p1.2 []) (some ([], t.2))
theorem lE_lc2 (hs : ∀ i ∈ slotsG tg, i ∈ own) (hs1 : ∀ i ∈ slotsG tg1, i ∈ own1) (σ : L2.St) (H : Hp) (Q : VK)
    (z : lE G F (fun Γ S => (it Γ S).bind fun p => (lcRun (turn2 el cnd cnd1 tg tg1 it1 own own1 Γ) p.1 p.2 []).bind fun q => some (.list q.1, q.2)) σ H Q) :
    tLc2 (lI G F it) (lG G F tg) (lT G F cnd) (lI G F it1) (lG G F tg1) (lT G F cnd1) (lE G F el) own own1 σ H Q := by
  obtain ⟨W, Γ, S, d, S', hF, R, e, k⟩ := z
  obtain ⟨p, e1, e⟩ := Option.bind_eq_some_iff.mp e
  obtain ⟨q, e2, e⟩ := Option.bind_eq_some_iff.mp e
  cases e
  refine ⟨W, Γ, S, p.1, p.2, hF, R, e1, fun J H1 k1 R1 wk D hD => ?_⟩
  have s0 : Same H1 (upd H1 D (.lst [])) := same_upd hD
  have q0 := R1.pool.add (H' := upd H1 D (.lst [])) hD s0
  have R2 : Rep G (W.add D) (upd H1 D (.lst [])) σ Γ p.2 := R1.add hD (.same s0) ⟨_, upd_same⟩ q0
  have f0 : Fut W.M (W.add D).M H1 (upd H1 D (.lst [])) := fut_add R1 hD (.same s0)
  have nb : ¬ W.base D := fun b => R1.tr.new hD (R1.sub D b)
  have acD : (W.add D).ac D := .inr rfl
  let f := turn2 el cnd cnd1 tg tg1 it1 own own1 Γ
  refine ⟨fun i m H => m = p.1.length - i ∧ At_ G (W.add D) D (upd H1 D (.lst [])) f p.1 q i H, ⟨_, rfl, Nat.zero_le _, ⟨[], [], p.2, upd_same, .nil, Nat.zero_le _, q0, by simpa using e2⟩, fun a o _ _ h => h⟩, ?_⟩
  rintro i m H2 ⟨rfl, A⟩
  obtain ⟨acc, es, Si, h1, h2, h3, h4, h5⟩ := A.st
  have R3 : Rep G (W.add D) H2 σ Γ Si := R2.keepD acD A.kp ⟨_, h1⟩ h4
  have nC : ¬ (W.add D).C D := fun c => nb (Wx.C_base R2 c)
  have fu : Fut (W.add D).M (W.add D).M (upd H1 D (.lst [])) H2 := A.kp.fut R2 (R2.acs D acD)
  by_cases hi : i < p.1.length
  · rw [List.drop_eq_getElem_cons hi, lcRun_cons] at h5
    obtain ⟨r, e3, e4⟩ := Option.bind_eq_some_iff.mp h5
    split at e4
    · rename_i hz
      refine .inr ⟨wk.go i _ H2 (f0.trans fu) hi, At_ G (W.add D) D (upd H1 D (.lst [])) f p.1 q (i + 1), fun H' A' => ⟨_, by omega, rfl, A'⟩, fun v H3 y => ?_⟩
      obtain ⟨s1, a1⟩ := wk.yld i _ H2 v H3 p.1[i] (f0.trans fu) R3.tr (List.getElem?_eq_getElem hi) y
      obtain ⟨b, e5, e3⟩ := Option.bind_eq_some_iff.mp e3
      obtain ⟨t, e6, e3⟩ := Option.bind_eq_some_iff.mp e3
      have R4 := (R3.same s1).wipe own
      refine ⟨W.add D, wipeG Γ own, Si, p.1[i], b.1, b.2, hF, R4, a1, e5, fun σ2 H4 k4 R5 sl => ⟨slots_eq hs (by rw [R.len, R5.len, bindG_len _ _ _ _ _ e5, wipeG_length]) sl, W.add D, b.1, b.2, t.1, t.2, hF, R5, e6, fun H5 k5 R6 => ?_⟩⟩
      have kk : KeepD (W.add D) D (upd H1 D (.lst [])) H5 := A.kp.trans ((Keep.same s1).d.trans (k4.d.trans k5.d))
      have hD5 : H5 D = some (.lst acc) := k5 _ _ nC (k4 _ _ nC (s1 _ _ h1))
      have fa : Fut (W.add D).M (W.add D).M H2 H5 := ((Keep.same s1).trans (k4.trans k5)).fut R3
      cases ht : t.1 with
      | false =>
        rw [ht] at e3
        cases e3
        simp only [Bool.false_eq_true, if_false]
        exact ⟨hi, ⟨acc, es, t.2, hD5, h2.fut fa, h3, R6.pool, by simpa using e4⟩, kk⟩
      | true =>
        rw [ht] at e3
        simp only [if_true]
        obtain ⟨p1, e7, e8⟩ := Option.bind_eq_some_iff.mp e3
        refine ⟨W.add D, b.1, t.2, p1.1, p1.2, hF, R6, e7, fun J1 H6 k6 R7 wk1 => ?_⟩
        have hD6 := k6 _ _ nC hD5
        have run : lcRun (turnE el cnd1 tg1 own1 b.1) p1.1 p1.2 es = some (es ++ r.1, r.2) := lcRun_acc p1.1 p1.2 [] es r.1 r.2 (by simpa using e8) hz
        refine loopE (W := W.add D) hs1 hF R7 acD nb wk1 (q := (es ++ r.1, r.2)) ⟨Nat.zero_le _, ⟨acc, es, p1.2, hD6, (h2.fut fa).fut (k6.fut R6), h3, R7.pool, by simpa using run⟩, fun a o _ _ h => h⟩ fun H7 A7 => ?_
        obtain ⟨acc7, es7, S7, g1, g2, g3, g4, g5⟩ := A7.st
        rw [List.drop_length] at g5
        have g5 : some (es7, S7) = some (es ++ r.1, r.2) := g5
        cases g5
        exact ⟨hi, ⟨acc7, _, _, g1, g2, g3, g4, e4⟩, kk.trans (k6.d.trans A7.kp)⟩
    · cases e4
  · have e : i = p.1.length := by have := A.le; omega
    subst e
    refine .inl ⟨wk.stop _ H2 (f0.trans fu), ?_⟩
    rw [List.drop_length] at h5
    have h5 : some (es, Si) = some q := h5
    cases h5
    have kp : Keep W H1 H2 := fun a o n h => A.kp a o n (ne_of_none h hD) (s0 a o h)
    exact k _ H2 (k1.trans kp) (R1.keep kp h4.less) (.lst (R1.tr.new hD) h1 (by rw [sl_eq]; exact h3) (h2.fut (.less fun a h => .inl h)))
end
end K26
namespace K26
open PySem PySem.Spec PyProof.Rows L2 PySem.W PySem.SeqAt

section
variable {X : Cx} {k : Ck} {c : Cf} {F : Fx} {lev : Nat}
theorem Ok0.kindE (o : Ok0 X k c F lev) (x : Str) : X.env.scope.names.lookup x = k.kind x := by rw [o.sc]; rfl
theorem Ok0.gl_ (o : Ok0 X k c F lev) {x : Str} (h : k.glb x = true) : Gl X x ∧ (x == ("__debug__" : Str)) = false ∧ x ≠ "__name__" := by
  simp only [Ck.glb, Bool.and_eq_true, decide_eq_true_eq, Bool.not_eq_true'] at h
  exact ⟨(o.kindE x).trans h.1.1, h.1.2, h.2⟩
theorem Ok0.var (o : Ok0 X k c F lev) {i : Nat} {x : Str} (h : k.vis i x = true) (p : Pos) : PE X (.Name x p) (tVar i) := by
  simp only [Ck.vis, Bool.and_eq_true, Bool.or_eq_true, decide_eq_true_eq, Bool.not_eq_true'] at h
  obtain ⟨⟨⟨h1, h2⟩, h3⟩, h4⟩ := h
  refine pe_var (by rw [o.N]; exact h1) ?_ h3 h4
  have e := o.kindE x
  rcases h2 with (h2 | h2) | h2
  · exact .inl (e.trans h2)
  · exact .inr (.inl (e.trans h2))
  · exact .inr (.inr (e.trans h2))
theorem Ok0.varE (o : Ok0 X k c F lev) {i : Nat} {e : Expr} (h : k.varE i e = true) : (∃ x p, e = .Name x p ∧ k.vis i x = true) ∧ PE X e (tVar i) := by
  unfold Ck.varE at h
  split at h
  · rename_i x p hv
    have := vName_of hv
    subst this
    exact ⟨⟨x, p, rfl, h⟩, o.var h p⟩
  · cases h
theorem Ok0.blk (o : Ok0 X k c F lev) (scope : Scope) (s : Shared) (H : Hp) (C : Addr) (cl : List (Str × Addr)) (fp : List Addr) : Ok0 (X.blk s H scope (compEnvC scope cl C X.env) fp) (k.blk scope) c F lev :=
  ⟨o.gd, o.calm, o.blt, o.N, o.nd, by show relS scope X.env.scope = _; rw [o.sc]; rfl, fun z => (by cases z), rfl, o.rm, o.mgG, o.fns, o.pfs, fun z => (by cases z)⟩
theorem blk_ok (o : Ok0 X k c F lev) {scope : Scope} {own : List Nat} (h : blkB k.N k.sc scope own = true) : BlkOk X.N X.env.scope scope (ownP k.N own) := by
  simp only [blkB, Bool.and_eq_true, Bool.or_eq_true, List.all_eq_true, decide_eq_true_eq, Bool.not_eq_true', Bool.or_eq_false_iff, decide_eq_false_iff_not] at h
  obtain ⟨⟨⟨⟨h1, h2⟩, h3⟩, h4⟩, h5⟩ := h
  rw [o.N, o.sc]
  refine ⟨h1, h2, fun p hp => ?_, fun y hy e => ?_, fun y hy e => ?_⟩
  · unfold ownP at hp
    obtain ⟨i, hi, rfl⟩ := List.mem_map.mp hp
    have := h3 i hi
    simp [List.getElem?_eq_getElem this]
  · rcases h4 y hy with (z | z) | z
    · exact absurd e z
    · exact .inl z
    · exact .inr z
  · rcases h5 y hy with (z | z) | z
    · rcases e with e | e
      · exact absurd e z.1
      · exact absurd e z.2
    · exact .inl z
    · exact .inr z
theorem ownP_snd (N : List Str) (own : List Nat) : (ownP N own).map (·.2) = own := by
  unfold ownP
  rw [List.map_map]
  exact List.map_id _
theorem no_set {e : Expr} (h : plainE e = true) (env : Env) (x : Value) : foldedSetIterable e env x = pure x := by
  cases e <;> first | rfl | cases h
/-! ### targets -/
theorem loc_of (o : Ok0 X k c F lev) {i : Nat} {x : Str} (h : k.loc i x = true) : X.N[i]? = some x ∧ Loc X.env.scope x ∧ (X.fn x = true ∨ X.env.scope.names.lookup x = some .local) := by
  simp only [Ck.loc, Bool.and_eq_true, Bool.or_eq_true, decide_eq_true_eq] at h
  obtain ⟨h1, h2⟩ := h
  have e := o.kindE x
  refine ⟨by rw [o.N]; exact h1, ?_⟩
  rcases h2 with h2 | ⟨h2, h3⟩
  · exact ⟨.inl (e.trans h2), .inr (e.trans h2)⟩
  · exact ⟨.inr (e.trans h3), .inl (by rw [o.top h2])⟩
theorem chkGs_len : ∀ (gs : Tgs) (es : List Expr), chkGs gs k es = true → (∀ ds Γ S p, bindGs gs ds Γ S = some p → ds.length = es.length) ∧ ∀ e ∈ es, plainE e = true
  | .nil, es, h => by
    cases es with
    | nil =>
      refine ⟨fun ds Γ S p z => ?_, fun e he => by cases he⟩
      cases ds with
      | nil => rfl
      | cons => exact absurd z (by intro z; cases z)
    | cons => exact absurd h (by intro z; cases z)
  | .cons g gs, es, h => by
    cases es with
    | nil => exact absurd h (by intro z; cases z)
    | cons e es =>
      have h : (plainE e && chkG g k e && chkGs gs k es) = true := h
      simp only [Bool.and_eq_true] at h
      obtain ⟨h1, h2⟩ := chkGs_len gs es h.2
      refine ⟨fun ds Γ S p z => ?_, fun e' he => ?_⟩
      · cases ds with
        | nil => exact absurd z (by intro z; cases z)
        | cons d ds =>
          have z : ((bindG g d Γ S).bind fun p => bindGs gs ds p.1 p.2) = some p := z
          obtain ⟨q, z1, z2⟩ := Option.bind_eq_some_iff.mp z
          rw [List.length_cons, List.length_cons, h1 _ _ _ _ z2]
      · rcases List.mem_cons.mp he with rfl | he
        · exact h.1.1
        · exact h2 e' he
theorem asgE_plain {env : Env} : ∀ (es : List Expr), (∀ e ∈ es, plainE e = true) → assignEach es env = es.map fun e => (false, assign e env)
  | [], _ => rfl
  | e :: es, h => by
    have ih := asgE_plain (env := env) es fun x hx => h x (List.mem_cons_of_mem _ hx)
    have he := h e List.mem_cons_self
    rw [List.map_cons, ← ih]
    cases e <;> first | rfl | cases he
mutual
theorem sndG (o : Ok0 X k c F lev) : ∀ (g : Tg) (e : Expr), chkG g k e = true → PG X e (lG (gl X) F g)
  | .nm i, e, h => by
    unfold chkG at h
    split at h
    · rename_i x p hv
      rw [vName_of hv]
      obtain ⟨h1, h2, h3⟩ := loc_of o h
      exact pgW (pg_name o.nd h1 h2 h3) lG_nm
    · cases h
  | .tp gs, e, h => by
    unfold chkG at h
    split at h
    · rename_i es hv
      obtain ⟨kk, p, rfl⟩ := vTup_of hv
      obtain ⟨h1, h2⟩ := chkGs_len gs es h
      refine pgW (pg_tup (n := es.length) o.calm (sndGs o gs es h) ?_ ?_) (lG_tp h1)
      · rw [asgE_plain es h2, List.length_map]
      · rw [asgE_plain es h2, List.findIdx?_eq_none_iff]
        intro x hx
        obtain ⟨e, _, rfl⟩ := List.mem_map.mp hx
        rfl
    · cases h
  | .sb i n, e, h => by
    unfold chkG at h
    split at h
    · rename_i a b hv
      obtain ⟨p, rfl⟩ := vSub_of hv
      simp only [Bool.and_eq_true] at h
      obtain ⟨h1, h2⟩ := h
      split at h2
      · rename_i cc hc
        have hc' := of_decide_eq_true h2
        subst hc'
        obtain ⟨j, q, rfl⟩ := vCon_of hc
        exact pgW (pg_sub (o.varE h1).2 pe_int set_list) lG_sb
      · cases h2
    · cases h
theorem sndGs (o : Ok0 X k c F lev) : ∀ (gs : Tgs) (es : List Expr), chkGs gs k es = true → PGs X es (lGs (gl X) F gs)
  | .nil, es, h => by
    cases es with
    | nil => exact pgsW pgs_nil lGs_nil
    | cons => exact absurd h (by intro z; cases z)
  | .cons g gs, es, h => by
    cases es with
    | nil => exact absurd h (by intro z; cases z)
    | cons e es =>
      have h : (plainE e && chkG g k e && chkGs gs k es) = true := h
      simp only [Bool.and_eq_true] at h
      refine pgsW (pgs_cons (sndG o g e h.1.2) (sndGs o gs es h.2) ?_) lGs_cons
      have he := h.1.1
      cases e <;> first | rfl | cases he
end
end
end K26
namespace K26
open PySem PySem.Spec PyProof.Rows L2 PySem.W PySem.SeqAt

/-! ### displays: what comes is new -/
inductive Raw (G : Gl0) (M : Addr → Prop) (H : Hp) (p : Addr) : HO → PyData → Prop
  | lst {vs : List V} {ds : List PyData} : AtL G M H vs ds → ds.length ≤ SL → Raw G M H p (.lst vs) (.list ds)
  | dic {xs : List (NestedKey × Addr × Value)} {kvs : List (PyData × PyData)} {ep : Nat} : (p == sysModules) = false → (xs.map (·.1)).Nodup → kvs.length ≤ SL → AtD G M H xs kvs → Raw G M H p (dicO G.P G.w p xs ep) (.dict kvs)
def lF (G : Gl0) (F : Fx) (f : Gm → Pl → Re) : TE := fun σ H Q => ∃ W Γ S d S', W.F = F ∧ Rep G W H σ Γ S ∧ f Γ S = some (d, S') ∧ ∀ p H1 o, Keep W H H1 → Rep G W H1 σ Γ S' → H1 p = none → Raw G W.M H1 p o d → Q (.ref p) (upd H1 p o)
section
variable {X : Cx} {F : Fx} {e : Expr} {f g h : Gm → Pl → Re} {G : Gl0}
theorem lE_lF (σ : L2.St) (H : Hp) (Q : VK) (q : lE G F f σ H Q) : lF G F f σ H Q := by
  obtain ⟨W, Γ, S, d, S', hF, R, e, k⟩ := q
  refine ⟨W, Γ, S, d, S', hF, R, e, fun p H1 o k1 R1 hp r => ?_⟩
  have s := same_upd (o := o) hp
  refine k _ _ (k1.trans (.same s)) (R1.same s) ?_
  cases r with
  | lst a z => exact At.newL R1.tr hp a z
  | dic m nd z a => exact .dic (R1.tr.new hp) m upd_same nd (by rw [sl_eq]; exact z) (a.fut (.same s))
theorem lF_lst {fs : Gm → Pl → Option (List PyData × Pl)} (σ : L2.St) (H : Hp) (Q : VK) (q : lF G F (fun Γ S => (fs Γ S).bind fun p => if p.1.length ≤ SL then some (.list p.1, p.2) else none) σ H Q) : tLst (lA G F fs) σ H Q := by
  obtain ⟨W, Γ, S, d, S', hF, R, e, k⟩ := q
  obtain ⟨p, e1, e⟩ := Option.bind_eq_some_iff.mp e
  split at e
  · rename_i z
    cases e
    exact ⟨W, Γ, S, p.1, p.2, hF, R, e1, fun vs H1 k1 R1 a1 => ⟨by rw [a1.length, sl_eq]; exact z, fun p' hp => k p' H1 _ k1 R1 hp (.lst a1 z)⟩⟩
  · cases e
/-- {} -/
def tD0 (P : Program) (w : World) : TE := fun _ H Q => ∀ p, H p = none → (p == sysModules) = false → Q (.ref p) (upd H p (dicO P w p [] 0))
theorem d0_pe {pos : Pos} : PE X (.Dict [] [] pos) (tD0 X.prog X.w) := ⟨fun pins s σ H Q I h =>
  wpAny_Dict_empty ⟨.ref s.heap.objs.size, _, I.laid (a := s.heap.objs.size) (o := dicO X.prog X.w s.heap.objs.size [] 0) (t' := s.toks) (fun _ _ q => Heap.get?_push_of_some _ q) (Nat.le_refl _)
    ⟨⟨_, #[], Heap.get?_push_size _ rfl, ⟨rfl, rfl, rfl⟩, rfl, rfl⟩, ⟨_, Heap.get?_push_size _ rfl⟩, fun g1 g2 ⟨o, es, k1, k2, k3, k4⟩ st => ⟨o, es, st _ k1, k2, k3, k4⟩⟩, rfl,
    h _ (I.hok.fresh (Nat.le_refl _)) (beq_eq_false_iff_ne.mpr (Ne.symm (Nat.ne_of_lt I.big)))⟩⟩
theorem lF_d0 (σ : L2.St) (H : Hp) (Q : VK) (q : lF G F (fun _ S => some (.dict [], S)) σ H Q) : tD0 G.P G.w σ H Q := by
  obtain ⟨W, Γ, S, d, S', hF, R, e, k⟩ := q
  cases e
  exact fun p hp hs => k p H _ .refl R hp (.dic hs List.nodup_nil (Nat.zero_le _) .nil)
/-- {k: v} -/
def tD1 (G : Gl0) (tk tv : TE) : TE := fun σ H Q => ∀ p, H p = none → (p == sysModules) = false → tk σ (upd H p (dicO G.P G.w p [] 0)) fun x H1 => tv σ H1 fun y H2 => H2 p = some (dicO G.P G.w p [] 0) ∧ ((∀ n, H2 p ≠ some (LamX.CodeO p n)) →
  ∃ M ks k, keyOf (.tuple ks) = some k ∧ k.depth ≤ 8 ∧ At G M H2 x (.tuple ks) ∧ ∀ a u ep, x = .ref a → RelV y u → Q (.ref p) (upd H2 p (dicO G.P G.w p [(k, a, u)] ep)))
theorem no_code {P : Program} {w : World} {H : Hp} {h : Heap} {a : Addr} {xs : List (NestedKey × Addr × Value)} {ep : Nat} (ok : HOk P w H h) (e : H a = some (dicO P w a xs ep)) (n : Str) : H a ≠ some (LamX.CodeO a n) := by
  intro e'
  obtain ⟨⟨o, es, h1, h2, h3, h4⟩, _, _⟩ := ok a _ e
  obtain ⟨⟨oc, vs, t, g1, g2, g3⟩, _, _⟩ := ok a _ e'
  rw [h1] at g1
  cases g1
  rw [h3] at g2
  cases g2
theorem d1_pe (B : Bx X) {a b : Expr} {tk tv : TE} {pos : Pos} (ha : PE X a tk) (hb : PE X b tv) : PE X (.Dict [some a] [b] pos) (tD1 (gl X) tk tv) := by
  refine ⟨fun pins s σ H Q I q => ?_⟩
  have hn := I.hok.fresh (Nat.le_refl s.heap.objs.size)
  have I1 := I.laid (a := s.heap.objs.size) (o := dicO X.prog X.w s.heap.objs.size [] 0) (h' := s.heap.push { cls := .type "dict", data := .dict #[] }) (t' := s.toks) (fun _ _ q => Heap.get?_push_of_some _ q) (Nat.le_refl _)
    ⟨⟨_, #[], Heap.get?_push_size _ rfl, ⟨rfl, rfl, rfl⟩, rfl, rfl⟩, ⟨_, Heap.get?_push_size _ rfl⟩, fun g1 g2 ⟨o, es, k1, k2, k3, k4⟩ st => ⟨o, es, st _ k1, k2, k3, k4⟩⟩
  have q := q _ hn (beq_eq_false_iff_ne.mpr (Ne.symm (Nat.ne_of_lt I.big)))
  refine wpAny_Dict_any (by rfl) (by rfl) (by simp) (by simp) (thn ((pps_cons (pos := pos) ha hb pps_nil).run pins _ σ _
    (fun ps H2 => match ps with
      | [(x, y)] => H2 s.heap.objs.size = some (dicO X.prog X.w s.heap.objs.size [] 0) ∧ ((∀ n, H2 s.heap.objs.size ≠ some (LamX.CodeO s.heap.objs.size n)) → ∃ M ks k, keyOf (.tuple ks) = some k ∧ k.depth ≤ 8 ∧ At (gl X) M H2 x (.tuple ks) ∧
        ∀ a u ep, x = .ref a → RelV y u → Q (.ref s.heap.objs.size) (upd H2 s.heap.objs.size (dicO X.prog X.w s.heap.objs.size [(k, a, u)] ep)))
      | _ => False) I1 q) fun ws s2 ⟨ps, H2, I2, rel, q2⟩ => ?_)
  match ps, rel, q2 with
  | [(x, y)], .cons (b := (u1, u2)) r t, ⟨e, q2⟩ =>
    obtain ⟨M, ks, k, hk, d8, hx, q2⟩ := q2 (no_code I2.hok e)
    cases t
    obtain ⟨b', ev, ex, hkey⟩ := nkey I2 hk hx d8 r.1
    have ev : u1 = .ref b' := ev
    subst ev
    show wpAny _ _ (storeAll s.heap.objs.size [(Value.ref b', u2)]) _ _ _
    unfold storeAll
    have dd := dic_at (M := M) (kvs := []) I2 ⟨0, e⟩ List.nodup_nil .nil
    simp only [List.forIn_cons, List.forIn_nil]
    refine wpAny_bind (wpAny_bind (wpAny_dictSet_heap (knd := nestedKind X.prog X.w) (by have := B.room; show X.A.units + 8 < _; omega) hkey dd (fun h' dh sb => ?_) (Nat.zero_le _)))
    refine wpAny_pure (wpAny_pure ?_)
    obtain ⟨ep, hob⟩ := dic_new dh
    exact ⟨.ref s.heap.objs.size, _, d_write I2 (by rw [e]; exact True.intro) sb (by obtain ⟨o, _, _, ho, _⟩ := dh; exact ⟨o, ho⟩) (hob _), rfl, q2 b' u2 ep ex r.2⟩
theorem lF_d1 (σ : L2.St) (H : Hp) (Q : VK) (q : lF G F (fun Γ S => (f Γ S).bind fun p => (g Γ p.2).bind fun q => match p.1 with
    | .tuple ks => (keyOf (.tuple ks)).bind fun y => if y.depth ≤ 8 then some (.dict [(.tuple ks, q.1)], q.2) else none
    | _ => none) σ H Q) : tD1 G (lE G F f) (lE G F g) σ H Q := by
  obtain ⟨W, Γ, S, d, S', hF, R, e, k⟩ := q
  obtain ⟨p, e1, e⟩ := Option.bind_eq_some_iff.mp e
  obtain ⟨r, e2, e⟩ := Option.bind_eq_some_iff.mp e
  intro a ha hs
  have s0 : Same H (upd H a (dicO G.P G.w a [] 0)) := same_upd ha
  have R0 : Rep G (W.add a) (upd H a (dicO G.P G.w a [] 0)) σ Γ S := R.add ha (.same s0) ⟨_, upd_same⟩ (R.pool.add ha s0)
  refine ⟨W.add a, Γ, S, p.1, p.2, hF, R0, e1, fun v H1 k1 R1 a1 => ⟨W.add a, Γ, p.2, r.1, r.2, hF, R1, e2, fun u H2 k2 R2 a2 => ?_⟩⟩
  have nb : ¬ W.base a := fun b => R.tr.new ha (R.sub a b)
  have nC : ¬ (W.add a).C a := fun c => nb (Wx.C_base R c)
  have h2 : H2 a = some (dicO G.P G.w a [] 0) := k2 _ _ nC (k1 _ _ nC upd_same)
  have a1 := a1.fut (k2.fut R1)
  split at e
  · rename_i ks hks
    obtain ⟨y, e3, e⟩ := Option.bind_eq_some_iff.mp e
    split at e
    · rename_i d8
      cases e
      rw [hks] at a1
      refine ⟨h2, fun nco => ⟨(W.add a).M, ks, y, e3, d8, a1, fun b w ep hb rw' => ?_⟩⟩
      -- the heap without the new dict
      let H3 : Hp := fun c => if c = a then none else H2 c
      have ne3 : ∀ {c}, c ≠ a → H3 c = H2 c := fun {c} n => if_neg n
      have e3a : H3 a = none := if_pos rfl
      have hu : upd H2 a (dicO G.P G.w a [(y, b, w)] ep) = upd H3 a (dicO G.P G.w a [(y, b, w)] ep) := by
        funext c
        by_cases hc : c = a
        · subst hc; rw [upd_same, upd_same]
        · rw [upd_ne hc, upd_ne hc, ne3 hc]
      have fu : Fut (W.add a).M W.M H2 H3 := fun c o n h => ⟨by rw [ne3 fun z => n (.inr z)]; exact h, fun z => n (.inl z)⟩
      have kp : Keep W H H3 := fun c o n h => by
        have hc : c ≠ a := ne_of_none h ha
        rw [ne3 hc]
        exact k2 _ _ n (k1 _ _ n (s0 c o h))
      have q3 : PoolAt G W H3 r.2 := by
        have q := R2.pool
        unfold PoolAt at q ⊢
        cases hp : W.pl with
        | none =>
          have : (W.add a).pl = none := hp
          rw [this] at q
          exact q
        | some p0 =>
          have : (W.add a).pl = some p0 := hp
          rw [this] at q
          obtain ⟨vs, z1, z2⟩ := q.at_
          have nba : ∀ {c}, W.base c → c ≠ a := fun h z => nb (by rw [← z]; exact h)
          refine ⟨q.base, fun t ht => ?_, q.tb, ⟨vs, by rw [ne3 (nba q.base)]; exact z1, z2.fut fu⟩, q.z, q.tt⟩
          obtain ⟨ps, t1, t2⟩ := q.tabs t ht
          exact ⟨ps, by rw [ne3 (nba (q.tb t ht))]; exact t1, t2.1, fun pos cv hc => let ⟨c, c1, c2⟩ := t2.2 pos cv hc; ⟨c, c1, by rw [ne3 fun z => by subst z; exact nco _ c2]; exact c2⟩⟩
      rw [hu]
      refine k a H3 _ kp (R.keep kp q3) e3a (.dic hs (by simp) (by simp [SL]) ?_)
      have ekd := keyOf_data _ _ e3
      have : AtD G W.M H3 [(y, b, w)] [(y.data, r.1)] := .cons (by rw [ekd, ← hb]; exact a1.fut fu) d8 rw' (a2.fut fu) .nil
      rw [ekd] at this
      exact this
    · cases e
  · cases e
end
end K26
set_option maxHeartbeats 8000000
namespace K26
open PySem PySem.Spec PyProof.Rows L2 PySem.W PySem.SeqAt

section
variable {X : Cx} {k : Ck} {c : Cf} {F : Fx} {lev : Nat} {e : Expr} {f g : Gm → Pl → Re} {G : Gl0}
/-- an expression's two sides -/
abbrev Bo (X : Cx) (F : Fx) (e : Expr) (f : Gm → Pl → Re) : Prop := PE X e (lE (gl X) F f) ∧ PT X e (lT (gl X) F (tst f))
theorem both (h : PE X e (lE (gl X) F f)) (he : ∀ whole, isTrue e X.env whole = (do let v ← whole; standAt e.pos; holding [v] (truthy v)) := by intro _; rfl) : Bo X F e f := ⟨h, pt_def h he⟩
theorem pe_abs {t : TE} (h : ∀ σ H Q, ¬ t σ H Q) : PE X e t := ⟨fun _ _ σ H Q _ q => (h σ H Q q).elim⟩
theorem back_plain {q : Pos} {env : Env} : ∀ {es : List Expr}, (∀ e ∈ es, plainE e = true) → (backTo q (starEach es env)).any (·.1) = false
  | [], _ => rfl
  | e :: es, h => by
    rw [star_cons (h e List.mem_cons_self)]
    exact back_plain (es := es) fun x hx => h x (List.mem_cons_of_mem _ hx)
theorem chks_plain : ∀ (as : Ts) (es : List Expr), chks as k es = true → ∀ e ∈ es, plainE e = true
  | .nil, es, h => by
    cases es with
    | nil => intro e he; cases he
    | cons => exact absurd h (by intro z; cases z)
  | .cons a as, es, h => by
    cases es with
    | nil => exact absurd h (by intro z; cases z)
    | cons e es =>
      have h : (plainE e && chkE a k e && chks as k es) = true := h
      simp only [Bool.and_eq_true] at h
      intro e' he
      rcases List.mem_cons.mp he with rfl | he
      · exact h.1.1
      · exact chks_plain as es h.2 e' he
theorem behind_plain {op : CmpOp} {b : Expr} (h : plainE b = true) : behindInMarks op b = false := by
  cases b <;> first | rfl | cases h
theorem lE_neg (σ : L2.St) (H : Hp) (Q : VK) (q : lE G F (fun Γ S => (f Γ S).bind fun p => (intD p.1).map fun i => (.int (-i), p.2)) σ H Q) : tUn (rU fun i => .int (-i)) (lE G F f) σ H Q := by
  obtain ⟨W, Γ, S, d, S', hF, R, e, k⟩ := q
  obtain ⟨p, e1, e⟩ := Option.bind_eq_some_iff.mp e
  obtain ⟨i, e2, e⟩ := Option.map_eq_some_iff.mp e
  cases e
  refine ⟨W, Γ, S, p.1, p.2, hF, R, e1, fun v H1 k1 R1 a1 => ⟨i, ?_, k _ H1 k1 R1 (.int _)⟩⟩
  cases h : p.1 <;> rw [h] at e2 <;> simp [intD] at e2
  subst e2
  rw [h] at a1
  exact a1.int_of
theorem con_pe {j : Nat} {p : Pos} (cc : Option Bool) {y : Expr} (h : vCon y = some (match cc with
      | none => .none
      | some b => .bool b)) : PE X y (tC (cV cc)) ∧ plainE y = true := by
  obtain ⟨j, p, rfl⟩ := vCon_of h
  cases cc with
  | none => exact ⟨pe_non, rfl⟩
  | some b => exact ⟨pe_bl, rfl⟩
/-! ### calls -/
theorem lE_call {fs : Gm → Pl → Option (List PyData × Pl)} {h : List PyData → Option PyData} (σ : L2.St) (H : Hp) (Q : VK) (q : lE G F (fun Γ S => (fs Γ S).bind fun p => (h p.1).map fun d => (d, p.2)) σ H Q) : tCB (pureS G h) (lA G F fs) σ H Q := by
  obtain ⟨W, Γ, S, d, S', hF, R, e, k⟩ := q
  obtain ⟨p, e1, e⟩ := Option.bind_eq_some_iff.mp e
  obtain ⟨d', e2, e⟩ := Option.map_eq_some_iff.mp e
  cases e
  exact ⟨W, Γ, S, p.1, p.2, hF, R, e1, fun vs H1 k1 R1 a1 => ⟨W.M, p.1, d, R1.tr, a1, e2, fun v H2 s2 a2 => k v H2 (k1.trans (.same s2)) (R1.same s2) a2⟩⟩
theorem lE_callK {f1 f2 : Gm → Pl → Re} {h : List PyData → Option PyData} (σ : L2.St) (H : Hp) (Q : VK) (q : lE G F (fun Γ S => ((f1 Γ S).bind fun p => ((f2 Γ p.2).bind fun q => some (q.1 :: ([] : List PyData), q.2)).bind fun q => some (p.1 :: q.1, q.2)).bind fun p => (h p.1.reverse).map fun d => (d, p.2)) σ H Q) :
    tCons (lE G F f1) (tCons (lE G F f2) tNil) σ H fun vs H2 => ∃ v1 v2, vs = [v1, v2] ∧ pureS G h [v2, v1] H2 Q := by
  obtain ⟨W, Γ, S, d, S', hF, R, e, k⟩ := q
  obtain ⟨p, e1, e⟩ := Option.bind_eq_some_iff.mp e
  obtain ⟨p1, e6, e3⟩ := Option.bind_eq_some_iff.mp e1
  obtain ⟨p3, e5, e3⟩ := Option.bind_eq_some_iff.mp e3
  obtain ⟨p2, e4, e5⟩ := Option.bind_eq_some_iff.mp e5
  cases e5
  cases e3
  obtain ⟨d', e2, e⟩ := Option.map_eq_some_iff.mp e
  cases e
  refine ⟨W, Γ, S, p1.1, p1.2, hF, R, e6, fun v1 H1 k1 R1 a1 => ⟨W, Γ, p1.2, p2.1, p2.2, hF, R1, e4, fun v2 H2 k2 R2 a2 => ⟨v1, v2, rfl, W.M, [p2.1, p1.1], d, R2.tr, .cons a2 (.cons (a1.fut (k2.fut R1)) .nil), by simpa using e2, fun v H3 s3 a3 =>
    k v H3 ((k1.trans k2).trans (.same s3)) (R2.same s3) a3⟩⟩⟩
theorem lE_callP {i : Nat} {fs : Gm → Pl → Option (List PyData × Pl)} {h : List PyData → Pl → Re} (σ : L2.St) (H : Hp) (Q : VK) (q : lE G F (fun Γ S => match Γ[i]? with
    | some (some .pool) => (fs Γ S).bind fun p => h p.1 p.2
    | _ => none) σ H Q) : tCB (poolS G F.tt h) (tCons (tVar i) (lA G F fs)) σ H Q := by
  obtain ⟨W, Γ, S, d, S', hF, R, e, k⟩ := q
  dsimp only at e
  split at e
  · rename_i hi
    obtain ⟨p, e1, e⟩ := Option.bind_eq_some_iff.mp e
    obtain ⟨a, ea, es⟩ := R.pol i hi
    refine ⟨_, es, W, Γ, S, p.1, p.2, hF, R, e1, fun vs H1 k1 R1 a1 => ⟨W, vs, p.1, p.2, d, S', a, rfl, ea, by rw [hF], R1.tr, R1.sub, ?_, a1, e, fun v H2 k2 q2 a2 => ?_⟩⟩
    · have q := R1.pool
      unfold PoolAt at q
      rw [ea] at q
      exact q
    · refine k v H2 (k1.trans k2) (R1.keep k2 ?_) a2
      unfold PoolAt
      rw [ea]
      exact q2
  · cases e
end
/-! ### all expressions -/
theorem star1 {y : Expr} {env : Env} (h : plainE y = true) : starEach [y] env = [(false, eval y env)] := star_cons (es := []) h
theorem star2 {y z : Expr} {env : Env} (h : plainE y = true) (h' : plainE z = true) : starEach [y, z] env = [(false, eval y env), (false, eval z env)] := by rw [star_cons h, star1 h']
/-- what an expression's text says, in any context -/
def SE (t : Tm) : Prop := ∀ (X : Cx) (k : Ck) (c : Cf) (F : Fx) (lev : Nat), Okx X k c F lev → ∀ e : Expr, chkE t k e = true → Bo X F e (evE c t)
def SAll : Ts → Prop
  | .nil => True
  | .cons a as => SE a ∧ SAll as
def SOs : Os → Prop
  | .no => True
  | .so a => SE a
def SIm (i : Im) : Prop := ∀ (X : Cx) (k : Ck) (c : Cf) (F : Fx) (lev : Nat), Okx X k c F lev → ∀ tg e : Expr, chkI i k tg e = true → PI X tg e (lI (gl X) F (evI c i))
theorem snds : ∀ (as : Ts), SAll as → ∀ (X : Cx) (k : Ck) (c : Cf) (F : Fx) (lev : Nat), Okx X k c F lev → ∀ es : List Expr, chks as k es = true → PA X es (lA (gl X) F (evs c as))
  | .nil, _, X, k, c, F, lev, o, es, h => by
    cases es with
    | nil => exact paW pa_nil lA_nil
    | cons => exact absurd h (by intro z; cases z)
  | .cons a as, ih, X, k, c, F, lev, o, es, h => by
    cases es with
    | nil => exact absurd h (by intro z; cases z)
    | cons e es =>
      have h : (plainE e && chkE a k e && chks as k es) = true := h
      simp only [Bool.and_eq_true] at h
      exact paW (pa_cons (ih.1 X k c F lev o e h.1.2).1 (snds as ih.2 X k c F lev o es h.2) (star_cons h.1.1)) lA_cons
theorem sndB : ∀ (as : Ts), SAll as → ∀ (X : Cx) (k : Ck) (c : Cf) (F : Fx) (lev : Nat), Okx X k c F lev → ∀ (op : BoolOp) (es : List Expr) (p : Pos), chks as k es = true → es ≠ [] → PE X (.BoolOp op es p) (lE (gl X) F (evB c op as)) ∧ PW X (.BoolOp op es p) (lT (gl X) F (tst (evB c op as)))
  | .nil, _, X, k, c, F, lev, o, op, es, p, h, h0 => by
    cases es with
    | nil => exact (h0 rfl).elim
    | cons => exact absurd h (by intro z; cases z)
  | .cons a .nil, ih, X, k, c, F, lev, o, op, es, p, h, h0 => by
    match es, h, h0 with
    | [], h, h0 => exact (h0 rfl).elim
    | [e], h, _ =>
      have h : (plainE e && chkE a k e && chks .nil k []) = true := h
      simp only [Bool.and_eq_true] at h
      have ha := ih.1 X k c F lev o e h.1.2
      refine ⟨pe_one ha.1, ?_⟩
      cases op with
      | And => exact pw_and1 ha.2
      | Or => exact pw_or1 ha.2
    | e :: e' :: es, h, _ =>
      have h : (plainE e && chkE a k e && chks .nil k (e' :: es)) = true := h
      simp only [Bool.and_eq_true] at h
      exact absurd h.2 (by intro z; cases z)
  | .cons a (.cons b bs), ih, X, k, c, F, lev, o, op, es, p, h, h0 => by
    match es, h, h0 with
    | [], h, h0 => exact (h0 rfl).elim
    | [e], h, _ =>
      have h : (plainE e && chkE a k e && chks (.cons b bs) k []) = true := h
      simp only [Bool.and_eq_true] at h
      exact absurd h.2 (by intro z; cases z)
    | e :: y :: ys, h, _ =>
      have h : (plainE e && chkE a k e && chks (.cons b bs) k (y :: ys)) = true := h
      simp only [Bool.and_eq_true] at h
      have ha := ih.1 X k c F lev o e h.1.2
      have i2 := sndB (.cons b bs) ih.2 X k c F lev o op (y :: ys) p h.2 (by simp)
      cases op with
      | And => exact ⟨peW (pe_and ha.1 i2.1) lE_and, pwW (pw_and ha.2 i2.2) lT_and⟩
      | Or => exact ⟨peW (pe_or ha.1 i2.1) lE_or, pwW (pw_or ha.2 i2.2) lT_or⟩
theorem sndO (b : Os) (ih : SOs b) (X : Cx) (k : Ck) (c : Cf) (F : Fx) (lev : Nat) (o : Okx X k c F lev) (e : Option Expr) (h : chkO b k e = true) : PO X e (lO (gl X) F (evO c b)) := by
  cases b with
  | no =>
    cases e with
    | none => exact poW po_none lO_no
    | some e => cases h
  | so a =>
    cases e with
    | none => cases h
    | some e => exact poW (po_some (ih X k c F lev o e h).1) lO_so
theorem sndF (b : Os) (ih : SOs b) (X : Cx) (k : Ck) (c : Cf) (F : Fx) (lev : Nat) (o : Okx X k c F lev) (es : List Expr) (h : chkF b k es = true) : PTs X es (lT (gl X) F (evC c b)) := by
  cases b with
  | no =>
    cases es with
    | nil => exact ⟨fun pins s σ H Q I ⟨W, Γ, S, d, S', hF, R, ev, kk⟩ => pts_nil.run pins s σ H Q I (by
        have ev : some (true, S) = some (d, S') := ev
        cases ev
        exact kk H .refl R)⟩
    | cons => exact absurd h (by intro z; cases z)
  | so a =>
    match es, h with
    | [], h => cases h
    | [e], h => exact pts_one (ih X k c F lev o e h).2
    | _ :: _ :: _, h => cases h
end K26
set_option maxHeartbeats 4000000
namespace K26
open PySem PySem.Spec PyProof.Rows L2 PySem.W PySem.SeqAt
theorem sE_var (i : Nat)  : SE (.var i) := fun X k c F lev o e h => by
  obtain ⟨⟨x, p, rfl, hv⟩, pe⟩ := o.toOk0.varE h
  exact both (peW pe lE_var)
theorem sE_non   : SE (.non ) := fun X k c F lev o e h => by
  obtain ⟨j, p, rfl⟩ := vCon_of (of_decide_eq_true h)
  exact both (peW pe_non (lE_const fun _ _ => .non))
theorem sE_bl (b : Bool)  : SE (.bl b) := fun X k c F lev o e h => by
  obtain ⟨j, p, rfl⟩ := vCon_of (of_decide_eq_true h)
  exact both (peW pe_bl (lE_const fun _ _ => .bl b))
theorem sE_int (b : Int)  : SE (.int b) := fun X k c F lev o e h => by
  obtain ⟨j, p, rfl⟩ := vCon_of (of_decide_eq_true h)
  exact both (peW pe_int (lE_const fun _ _ => .int b))
theorem sE_str (b : Str)  : SE (.str b) := fun X k c F lev o e h => by
  obtain ⟨j, p, rfl⟩ := vCon_of (of_decide_eq_true h)
  exact both (peW pe_str (lE_const fun _ _ => .str b))
theorem sE_glo (g : Nat)  : SE (.glo g) := fun X k c F lev o e h => by
  unfold chkE at h
  split at h
  · rename_i x p hv
    obtain rfl := vName_of hv
    simp only [Bool.and_eq_true, decide_eq_true_eq] at h
    obtain ⟨h1, h2, h3⟩ := o.toOk0.gl_ h.2
    obtain ⟨u, v, hm, r, a⟩ := o.mgG g x h.1
    exact both (peW (pe_glob h1 hm r h2) (lE_const a))
  · cases h
theorem sE_bin (op : Operator) (a b : Tm) (ih_a : SE a) (ih_b : SE b) : SE (.bin op a b) := fun X k c F lev o e h => by
  unfold chkE at h
  split at h
  · rename_i l op' r hv
    obtain ⟨p, rfl⟩ := vBin_of hv
    simp only [Bool.and_eq_true, decide_eq_true_eq] at h
    obtain ⟨⟨rfl, h2⟩, h3⟩ := h
    exact both (peW (pe_op (op_bin op') (ih_a X k c F lev o l h2).1 (ih_b X k c F lev o r h3).1) (lE_b2 (h := binD op') fun _ _ _ _ z => z))
  · cases h
theorem sE_neg (a : Tm) (ih_a : SE a) : SE (.neg a) := fun X k c F lev o e h => by
  unfold chkE at h
  split at h
  · rename_i op' x hv
    obtain ⟨p, rfl⟩ := vUn_of hv
    simp only [Bool.and_eq_true, decide_eq_true_eq] at h
    obtain ⟨rfl, h2⟩ := h
    exact both (peW (pe_un un_neg (ih_a X k c F lev o x h2).1) lE_neg)
  · cases h
theorem sE_cmp (op : CmpOp) (a b : Tm) (ih_a : SE a) (ih_b : SE b) : SE (.cmp op a b) := fun X k c F lev o e h => by
  unfold chkE at h
  split at h
  · rename_i x o' y hv
    obtain ⟨p, rfl⟩ := vCmp_of hv
    simp only [Bool.and_eq_true, decide_eq_true_eq] at h
    obtain ⟨⟨⟨rfl, h2⟩, h3⟩, h4⟩ := h
    have ha := (ih_a X k c F lev o x h2).1
    have hb := (ih_b X k c F lev o y h3).1
    exact ⟨peW (pe_cmpR (op_cmp o' o.toOk0.bx.room) ha hb (behind_plain h4)) lE_cmp, ptW (pt_cmpR (op_cmp o' o.toOk0.bx.room) ha hb (behind_plain h4)) (tTest_lT lE_cmp)⟩
  · cases h
theorem sE_cmp2 (o1 o2 : CmpOp) (a b d : Tm) (ih_a : SE a) (ih_b : SE b) (ih_d : SE d) : SE (.cmp2 o1 o2 a b d) := fun X k c F lev o e h => by
  unfold chkE at h
  split at h
  · rename_i x o' o2' y z hv
    obtain ⟨p, rfl⟩ := vCmp_of hv
    simp only [Bool.and_eq_true, decide_eq_true_eq] at h
    obtain ⟨⟨⟨⟨⟨rfl, rfl⟩, h2⟩, h3⟩, h4⟩, h5⟩ := h
    have ha := (ih_a X k c F lev o x h2).1
    have hb := (ih_b X k c F lev o y h3).1
    have hd := (ih_d X k c F lev o z h4).1
    exact ⟨peW (pe_chain (op_cmp o' o.toOk0.bx.room) (op_cmp o2' o.toOk0.bx.room) ha hb hd (behind_plain h5)) lE_cmp2,
      ptW (pt_chain (op_cmp o' o.toOk0.bx.room) (op_cmp o2' o.toOk0.bx.room) ha hb hd (behind_plain h5)) (tTest_lT lE_cmp2)⟩
  · cases h
theorem sE_isc (ng : Bool) (a : Tm) (cc : Option Bool) (ih_a : SE a) : SE (.isc ng a cc) := fun X k c F lev o e h => by
  unfold chkE at h
  split at h
  · rename_i x o' y hv
    obtain ⟨p, rfl⟩ := vCmp_of hv
    simp only [Bool.and_eq_true, decide_eq_true_eq] at h
    obtain ⟨⟨rfl, h2⟩, h3⟩ := h
    have ha := (ih_a X k c F lev o x h2).1
    obtain ⟨j, q, rfl⟩ := vCon_of h3
    obtain ⟨hb, hp⟩ := con_pe (j := 0) (p := q) (X := X) cc h3
    exact ⟨peW (pe_cmpR (op_is ng cc) ha hb (behind_plain hp)) lE_isc, ptW (pt_cmpR (op_is ng cc) ha hb (behind_plain hp)) (tTest_lT lE_isc)⟩
  · cases h
theorem sE_ino (ng : Bool) (a : Tm) (i : Nat) (ih_a : SE a) : SE (.ino ng a i) := fun X k c F lev o e h => by
  unfold chkE at h
  split at h
  · rename_i x o' y hv
    obtain ⟨p, rfl⟩ := vCmp_of hv
    simp only [Bool.and_eq_true, decide_eq_true_eq] at h
    obtain ⟨⟨rfl, h2⟩, h3⟩ := h
    have ha := (ih_a X k c F lev o x h2).1
    obtain ⟨⟨x', p', rfl, hv'⟩, hb⟩ := o.toOk0.varE h3
    exact ⟨peW (pe_cmpR (op_cmp _ o.toOk0.bx.room) ha hb (behind_plain rfl)) lE_ino, ptW (pt_cmpR (op_cmp _ o.toOk0.bx.room) ha hb (behind_plain rfl)) (tTest_lT lE_ino)⟩
  · cases h
theorem sE_boo (op : BoolOp) (as : Ts) (ih_as : SAll as) : SE (.boo op as) := fun X k c F lev o e h => by
  unfold chkE at h
  split at h
  · rename_i op' es hv
    obtain ⟨p, rfl⟩ := vBoo_of hv
    simp only [Bool.and_eq_true, decide_eq_true_eq] at h
    obtain ⟨⟨rfl, h2⟩, h3⟩ := h
    obtain ⟨q1, q2⟩ := sndB as ih_as X k c F lev o op' es p h2 (by intro z; rw [z] at h3; cases h3)
    exact ⟨q1, q2.pt⟩
  · cases h
theorem sE_not (a : Tm) (ih_a : SE a) : SE (.not a) := fun X k c F lev o e h => by
  unfold chkE at h
  split at h
  · rename_i op' x hv
    obtain ⟨p, rfl⟩ := vUn_of hv
    simp only [Bool.and_eq_true, decide_eq_true_eq] at h
    obtain ⟨rfl, h2⟩ := h
    have ha := ih_a X k c F lev o x h2
    exact ⟨peW (pe_not ha.1) lE_not, ptW (pt_not ha.2) lT_not⟩
  · cases h
theorem sE_ite (cc a b : Tm) (ih_cc : SE cc) (ih_a : SE a) (ih_b : SE b) : SE (.ite cc a b) := fun X k c F lev o e h => by
  unfold chkE at h
  split at h
  · rename_i x y z hv
    obtain ⟨p, rfl⟩ := vIf_of hv
    simp only [Bool.and_eq_true] at h
    have hc := ih_cc X k c F lev o x h.1.1
    have ha := ih_a X k c F lev o y h.1.2
    have hb := ih_b X k c F lev o z h.2
    exact ⟨peW (pe_ifExp hc.2 ha.1 hb.1) lE_ite, ptW (pt_ite hc.2 ha.2 hb.2) lT_ite⟩
  · cases h
theorem sE_ix (a b : Tm) (ih_a : SE a) (ih_b : SE b) : SE (.ix a b) := fun X k c F lev o e h => by
  unfold chkE at h
  split at h
  · rename_i x y hv
    obtain ⟨p, rfl⟩ := vSub_of hv
    simp only [Bool.and_eq_true] at h
    exact both (peW (pe_ix (ix_data o.toOk0.bx.room) (ih_a X k c F lev o x h.1.1).1 (ih_b X k c F lev o y h.1.2).1 (plain_ix h.2)) lE_ix)
  · cases h
theorem sE_ixo (i : Nat) (b : Tm) (ih_b : SE b) : SE (.ixo i b) := fun X k c F lev o e h => by
  unfold chkE at h
  split at h
  · rename_i x y hv
    obtain ⟨p, rfl⟩ := vSub_of hv
    simp only [Bool.and_eq_true] at h
    exact both (peW (pe_ix (ix_data o.toOk0.bx.room) (o.toOk0.varE h.1.1).2 (ih_b X k c F lev o y h.1.2).1 (plain_ix h.2)) lE_ixo)
  · cases h
theorem sE_sl (a : Tm) (lo hi : Os) (ih_a : SE a) (ih_lo : SOs lo) (ih_hi : SOs hi) : SE (.sl a lo hi) := fun X k c F lev o e h => by
  unfold chkE at h
  split at h
  · rename_i x y hv
    obtain ⟨p, rfl⟩ := vSub_of hv
    simp only [Bool.and_eq_true] at h
    obtain ⟨h1, h2⟩ := h
    split at h2
    · rename_i l u hs
      obtain ⟨p', rfl⟩ := vSli_of hs
      simp only [Bool.and_eq_true] at h2
      exact both (peW (pe_slice sl_data (ih_a X k c F lev o x h1).1 (sndO lo ih_lo X k c F lev o l h2.1) (sndO hi ih_hi X k c F lev o u h2.2)) lE_sl)
    · cases h2
  · cases h
theorem sE_tup (as : Ts) (ih_as : SAll as) : SE (.tup as) := fun X k c F lev o e h => by
  unfold chkE at h
  split at h
  · rename_i es hv
    obtain ⟨kk, p, rfl⟩ := vTup_of hv
    exact both (peW (pe_tup (snds as ih_as X k c F lev o es h)) lE_tup)
  · cases h
theorem sE_lst (as : Ts) (ih_as : SAll as) : SE (.lst as) := fun X k c F lev o e h => by
  unfold chkE at h
  split at h
  · rename_i es hv
    obtain ⟨p, rfl⟩ := vLst_of hv
    exact both (peW (pe_lst (snds as ih_as X k c F lev o es h)) lE_lst)
  · cases h
theorem sE_dic0   : SE (.dic0 ) := fun X k c F lev o e h => by
  unfold chkE at h
  split at h
  · rename_i hv
    obtain ⟨p, rfl⟩ := vDic_of hv
    exact both (peW d0_pe fun σ H Q q => lF_d0 σ H Q (lE_lF σ H Q q))
  · cases h
theorem sE_dic1 (a b : Tm) (ih_a : SE a) (ih_b : SE b) : SE (.dic1 a b) := fun X k c F lev o e h => by
  unfold chkE at h
  split at h
  · rename_i x y hv
    obtain ⟨p, rfl⟩ := vDic_of hv
    simp only [Bool.and_eq_true] at h
    exact both (peW (d1_pe o.toOk0.bx (ih_a X k c F lev o x h.1).1 (ih_b X k c F lev o y h.2).1) fun σ H Q q => lF_d1 σ H Q (lE_lF σ H Q q))
  · cases h
theorem sE_bi (f : Bi) (a : Tm) (ih_a : SE a) : SE (.bi f a) := fun X k c F lev o e h => by
  unfold chkE at h
  split at h
  · rename_i x y hv
    obtain ⟨p, q, rfl, hg⟩ := vCG_of hv
    simp only [Bool.and_eq_true, decide_eq_true_eq] at h
    obtain ⟨⟨rfl, h2⟩, h3⟩ := h
    exact both (peW (bi_pe o.toOk0.bx f (o.toOk0.gl_ hg).1 (ih_a X k c F lev o y h2).1 h3) lE_bi)
  · cases h
theorem sE_bio (f : Bi) (i : Nat)  : SE (.bio f i) := fun X k c F lev o e h => by
  unfold chkE at h
  split at h
  · rename_i x y hv
    obtain ⟨p, q, rfl, hg⟩ := vCG_of hv
    simp only [Bool.and_eq_true, decide_eq_true_eq] at h
    obtain ⟨rfl, h2⟩ := h
    obtain ⟨⟨x', p', rfl, hv'⟩, hb⟩ := o.toOk0.varE h2
    exact both (peW (bi_pe o.toOk0.bx f (o.toOk0.gl_ hg).1 hb rfl) lE_bio)
  · cases h
theorem sE_bj (f : Bj) (a b : Tm) (ih_a : SE a) (ih_b : SE b) : SE (.bj f a b) := fun X k c F lev o e h => by
  unfold chkE at h
  split at h
  · rename_i x y z hv
    obtain ⟨p, q, rfl, hg⟩ := vCG_of hv
    simp only [Bool.and_eq_true, decide_eq_true_eq] at h
    obtain ⟨⟨⟨⟨rfl, h2⟩, h3⟩, h4⟩, h5⟩ := h
    exact both (peW (bj_pe o.toOk0.bx f (o.toOk0.gl_ hg).1 (ih_a X k c F lev o y h2).1 (ih_b X k c F lev o z h3).1 h4 h5) lE_bj)
  · cases h
theorem sE_isa (a : Tm) (t : Ty) (ih_a : SE a) : SE (.isa a t) := fun X k c F lev o e h => by
  unfold chkE at h
  split at h
  · rename_i x y z hv
    obtain ⟨p, q, rfl, hg⟩ := vCG_of hv
    simp only [Bool.and_eq_true, decide_eq_true_eq] at h
    obtain ⟨⟨⟨rfl, h2⟩, h3⟩, h4⟩ := h
    split at h4
    · rename_i n r hn
      obtain rfl := vName_of hn
      simp only [Bool.and_eq_true, decide_eq_true_eq] at h4
      obtain ⟨rfl, h5⟩ := h4
      exact both (peW (isa_pe o.toOk0.bx t (o.toOk0.gl_ hg).1 (o.toOk0.gl_ h5).1 (o.blt _ (by cases t <;> decide)) (ih_a X k c F lev o y h2).1 h3) lE_isa)
    · cases h4
  · cases h
theorem sE_sset (a : Tm) (ih_a : SE a) : SE (.sset a) := fun X k c F lev o e h => by
  unfold chkE at h
  split at h
  · rename_i x y hv
    obtain ⟨p, q, rfl, hg⟩ := vCG_of hv
    simp only [Bool.and_eq_true, decide_eq_true_eq] at h
    obtain ⟨rfl, h2⟩ := h
    split at h2
    · rename_i z u hv2
      obtain ⟨p2, q2, rfl, hg2⟩ := vCG_of hv2
      simp only [Bool.and_eq_true, decide_eq_true_eq] at h2
      obtain ⟨⟨rfl, h3⟩, h4⟩ := h2
      exact both (peW (sset_pe o.toOk0.bx (o.toOk0.gl_ hg).1 (o.toOk0.gl_ hg2).1 (ih_a X k c F lev o u h3).1 h4) lE_sset)
    · cases h2
  · cases h
theorem sE_lrg (as : Ts) (ih_as : SAll as) : SE (.lrg as) := fun X k c F lev o e h => by
  unfold chkE at h
  split at h
  · rename_i x y hv
    obtain ⟨p, q, rfl, hg⟩ := vCG_of hv
    simp only [Bool.and_eq_true, decide_eq_true_eq] at h
    obtain ⟨rfl, h2⟩ := h
    split at h2
    · rename_i z us hv2
      obtain ⟨p2, q2, rfl, hg2⟩ := vCG_of hv2
      simp only [Bool.and_eq_true, Bool.or_eq_true, decide_eq_true_eq] at h2
      obtain ⟨⟨rfl, h3⟩, h4⟩ := h2
      have hm := o.blt "range" (by decide)
      match as, ih_as, us, h3, h4 with
      | .nil, _, [], _, h4 => simp at h4
      | .nil, _, _ :: _, h3, _ => exact absurd h3 (by intro z; cases z)
      | .cons a as', _, [], h3, _ => exact absurd h3 (by intro z; cases z)
      | .cons a .nil, ih, [u], h3, h4 =>
        have ih_a : SE a := ih.1
        have h3 : (plainE u && chkE a k u && chks .nil k []) = true := h3
        simp only [Bool.and_eq_true] at h3
        refine both (peW (lrg_pe o.toOk0.bx (o.toOk0.gl_ hg).1 (prg_1 (o.toOk0.gl_ hg2).1 hm (ih_a X k c F lev o u h3.1.2).1 (star_cons h3.1.1)) rfl) fun σ H Q q => lE_lrg1 σ H Q ?_)
        have : evE c (.lrg (.cons a .nil)) = fun Γ S => (evE c a Γ S).bind fun p => (lrgD [p.1]).map fun d => (.list d, p.2) := by
          funext Γ S
          show (((evE c a Γ S).bind fun p => (some (([] : List PyData), p.2)).bind fun q => some (p.1 :: q.1, q.2))).bind _ = _
          cases evE c a Γ S <;> rfl
        rw [← this]
        exact q
      | .cons a .nil, _, u :: v :: us, h3, _ =>
        have h3 : (plainE u && chkE a k u && chks .nil k (v :: us)) = true := h3
        simp only [Bool.and_eq_true] at h3
        exact absurd h3.2 (by intro z; cases z)
      | .cons a (.cons b .nil), ih, [u, v], h3, h4 =>
        have ih_a : SE a := ih.1
        have ih_b : SE b := ih.2.1
        have h3 : (plainE u && chkE a k u && (plainE v && chkE b k v && chks .nil k [])) = true := h3
        simp only [Bool.and_eq_true] at h3
        refine both (peW (lrg_pe o.toOk0.bx (o.toOk0.gl_ hg).1 (prg_2 (o.toOk0.gl_ hg2).1 hm (ih_a X k c F lev o u h3.1.2).1 (ih_b X k c F lev o v h3.2.1.2).1 (star_cons h3.1.1) (star_cons h3.2.1.1) (by rw [star1 h3.2.1.1]; rfl)) rfl) fun σ H Q q => lE_lrg2 σ H Q ?_)
        have : evE c (.lrg (.cons a (.cons b .nil))) = fun Γ S => (evE c a Γ S).bind fun p => (evE c b Γ p.2).bind fun r => (lrgD [p.1, r.1]).map fun d => (.list d, r.2) := by
          funext Γ S
          show (((evE c a Γ S).bind fun p => ((evE c b Γ p.2).bind fun p => (some (([] : List PyData), p.2)).bind fun q => some (p.1 :: q.1, q.2)).bind fun q => some (p.1 :: q.1, q.2))).bind _ = _
          cases evE c a Γ S with
          | none => rfl
          | some p =>
            show (((evE c b Γ p.2).bind fun p => (some (([] : List PyData), p.2)).bind fun q => some (p.1 :: q.1, q.2)).bind fun q => some (p.1 :: q.1, q.2)).bind _ = (evE c b Γ p.2).bind _
            cases evE c b Γ p.2 <;> rfl
        rw [← this]
        exact q
      | .cons a (.cons b as), _, [u], h3, _ =>
        have h3 : (plainE u && chkE a k u && chks (.cons b as) k []) = true := h3
        simp only [Bool.and_eq_true] at h3
        exact absurd h3.2 (by intro z; cases z)
      | .cons a (.cons b (.cons d as)), _, [u, v], h3, _ =>
        have h3 : (plainE u && chkE a k u && (plainE v && chkE b k v && chks (.cons d as) k [])) = true := h3
        simp only [Bool.and_eq_true] at h3
        exact absurd h3.2.2 (by intro z; cases z)
      | .cons a (.cons b as), _, u :: v :: w :: us, h3, h4 => simp at h4
    · cases h2
  · cases h
end K26
namespace K26
open PySem PySem.Spec PyProof.Rows L2 PySem.W PySem.SeqAt
theorem sE_vmx (a : Tm) (ih_a : SE a) : SE (.vmx a) := fun X k c F lev o e h => by
  unfold chkE at h
  split at h
  · rename_i x y hv
    obtain ⟨p, q, rfl, hg⟩ := vCG_of hv
    simp only [Bool.and_eq_true, decide_eq_true_eq] at h
    obtain ⟨rfl, h2⟩ := h
    split at h2
    · rename_i ob m p2 q2 hv2
      obtain rfl := vCA_of hv2
      simp only [Bool.and_eq_true, decide_eq_true_eq] at h2
      obtain ⟨⟨⟨rfl, h3⟩, h4⟩, h5⟩ := h2
      obtain ⟨⟨n, np⟩, hn⟩ := Option.isSome_iff_exists.mp h4
      obtain rfl := vName_of hn
      exact both (peW (vmx_pe o.toOk0.bx (o.toOk0.gl_ hg).1 (ih_a X k c F lev o _ h3).1 h5) lE_vmx)
    · cases h2
  · cases h
theorem sE_dic (a : Tm) (ih_a : SE a) : SE (.dic a) := fun X k c F lev o e h => by
  unfold chkE at h
  split at h
  · rename_i x y hv
    obtain ⟨p, q, rfl, hg⟩ := vCG_of hv
    simp only [Bool.and_eq_true, decide_eq_true_eq] at h
    obtain ⟨⟨rfl, h2⟩, h3⟩ := h
    exact both (peW (dic_pe o.toOk0.bx (o.toOk0.gl_ hg).1 (ih_a X k c F lev o y h2).1 h3) lE_dic)
  · cases h
theorem sE_get (a b d : Tm) (ih_a : SE a) (ih_b : SE b) (ih_d : SE d) : SE (.get a b d) := fun X k c F lev o e h => by
  unfold chkE at h
  split at h
  · rename_i ob m p x y q hv
    obtain rfl := vCA_of hv
    simp only [Bool.and_eq_true, decide_eq_true_eq] at h
    obtain ⟨⟨⟨⟨⟨⟨⟨rfl, h2⟩, h3⟩, h4⟩, h5⟩, h6⟩, h7⟩, h8⟩ := h
    obtain ⟨⟨n, np⟩, hn⟩ := Option.isSome_iff_exists.mp h3
    obtain rfl := vName_of hn
    exact both (peW (get_pe o.toOk0.bx (ih_a X k c F lev o _ h2).1 (ih_b X k c F lev o x h4).1 (ih_d X k c F lev o y h5).1 h6 h7 h8) lE_get)
  · cases h
theorem sE_geto (i : Nat) (b d : Tm) (ih_b : SE b) (ih_d : SE d) : SE (.geto i b d) := fun X k c F lev o e h => by
  unfold chkE at h
  split at h
  · rename_i ob m p x y q hv
    obtain rfl := vCA_of hv
    simp only [Bool.and_eq_true, decide_eq_true_eq] at h
    obtain ⟨⟨⟨⟨⟨⟨rfl, h2⟩, h4⟩, h5⟩, h6⟩, h7⟩, h8⟩ := h
    obtain ⟨⟨n, np, rfl, hv'⟩, ho⟩ := o.toOk0.varE h2
    exact both (peW (get_pe o.toOk0.bx ho (ih_b X k c F lev o x h4).1 (ih_d X k c F lev o y h5).1 h6 h7 h8) lE_geto)
  · cases h
theorem sE_upper (a : Tm) (ih_a : SE a) : SE (.upper a) := fun X k c F lev o e h => by
  unfold chkE at h
  split at h
  · rename_i ob m p q hv
    obtain rfl := vCA_of hv
    simp only [Bool.and_eq_true, decide_eq_true_eq] at h
    obtain ⟨⟨⟨rfl, h2⟩, h3⟩, h4⟩ := h
    obtain ⟨⟨n, np⟩, hn⟩ := Option.isSome_iff_exists.mp h3
    obtain rfl := vName_of hn
    exact both (peW (pe_upper (ih_a X k c F lev o _ h2).1 rfl h4) lE_upper)
  · cases h
theorem sE_call (f : Nat) (as : Ts) (ih_as : SAll as) : SE (.call f as) := fun X k c F lev o e h => by
  unfold chkE at h
  split at h
  · rename_i x es hv
    obtain ⟨p, q, rfl, hg⟩ := vCG_of hv
    simp only [Bool.and_eq_true, decide_eq_true_eq] at h
    refine both ?_
    cases hf : c.fn f with
    | none =>
      refine pe_abs fun σ H Q ⟨W, Γ, S, d, S', hF, R, ev, _⟩ => ?_
      have ev : ((evs c as Γ S).bind fun p => (c.fn f).bind fun g => (g p.1).map fun d => (d, p.2)) = some (d, S') := ev
      obtain ⟨r, e1, ev⟩ := Option.bind_eq_some_iff.mp ev
      rw [hf] at ev
      cases ev
    | some gg =>
      obtain ⟨x', fa, fd, ps, e1, e2, e3, e4, e5, _⟩ := o.fns f gg hf
      obtain rfl : x' = x := Option.some.inj (e1.symm.trans h.1)
      have cr := e5.cr o.rm o.gd e4
      have pa := snds as ih_as X k c F lev o es h.2
      have w : ∀ σ H Q, lE (gl X) F (evE c (.call f as)) σ H Q → tCB (pureS (gl X) gg) (lA (gl X) F (evs c as)) σ H Q := fun σ H Q q => by
        refine lE_call σ H Q ?_
        have : evE c (.call f as) = fun Γ S => (evs c as Γ S).bind fun p => (gg p.1).map fun d => (d, p.2) := by
          funext Γ S
          show (evs c as Γ S).bind (fun p => (c.fn f).bind fun g => (g p.1).map fun d => (d, p.2)) = _
          rw [hf]
          rfl
        rw [← this]
        exact q
      cases es with
      | nil =>
        exact peW (call0_pe (pos := q) cr (o.toOk0.gl_ hg).1 e2 e3 (o.toOk0.gl_ hg).2.1) fun σ H Q z => by
          have z := w σ H Q z
          cases as with
          | nil => exact lA_nil σ H _ z
          | cons a as => exact absurd h.2 (by intro z; cases z)
      | cons y ys =>
        have pl := chks_plain as (y :: ys) h.2
        exact peW (call_pe cr (o.toOk0.gl_ hg).1 e2 e3 pa (o.toOk0.gl_ hg).2.1 (star_cons (pl y List.mem_cons_self)) (back_plain fun z hz => pl z (List.mem_cons_of_mem _ hz))) w
  · cases h
theorem sE_callK (f : Nat) (as : Ts) (ih_as : SAll as) : SE (.callK f as) := fun X k c F lev o e h => by
  unfold chkE at h
  split at h
  · rename_i g n1 e1 p1 n2 e2 p2 q hv
    obtain rfl := vCall_of hv
    split at h
    · rename_i x p hn
      obtain rfl := vName_of hn
      simp only [Bool.and_eq_true, decide_eq_true_eq] at h
      obtain ⟨⟨⟨⟨⟨h1, h2⟩, rfl⟩, rfl⟩, h3⟩, h4⟩ := h
      match as, ih_as, h3 with
      | .nil, _, h3 => exact absurd h3 (by intro z; cases z)
      | .cons a .nil, _, h3 =>
        have h3 : (plainE e1 && chkE a k e1 && chks .nil k [e2]) = true := h3
        simp only [Bool.and_eq_true] at h3
        exact absurd h3.2 (by intro z; cases z)
      | .cons a (.cons b (.cons d as)), _, h3 =>
        have h3 : (plainE e1 && chkE a k e1 && (plainE e2 && chkE b k e2 && chks (.cons d as) k [])) = true := h3
        simp only [Bool.and_eq_true] at h3
        exact absurd h3.2.2 (by intro z; cases z)
      | .cons a (.cons b .nil), ih, h3 =>
        have ih_a : SE a := ih.1
        have ih_b : SE b := ih.2.1
        have h3 : (plainE e1 && chkE a k e1 && (plainE e2 && chkE b k e2 && chks .nil k [])) = true := h3
        simp only [Bool.and_eq_true] at h3
        refine both ?_
        cases hf : c.fn f with
        | none =>
          refine pe_abs fun σ H Q ⟨W, Γ, S, d, S', hF, R, ev, _⟩ => ?_
          have ev : ((evs c (.cons a (.cons b .nil)) Γ S).bind fun p => (c.fn f).bind fun g => (g p.1.reverse).map fun d => (d, p.2)) = some (d, S') := ev
          obtain ⟨r, e1, ev⟩ := Option.bind_eq_some_iff.mp ev
          rw [hf] at ev
          cases ev
        | some gg =>
          obtain ⟨x', fa, fd, ps, g1, g2, g3, g4, g5, g6⟩ := o.fns f gg hf
          obtain rfl : x' = x := Option.some.inj (g1.symm.trans h1)
          refine peW (callk_pe g5 o.rm o.gd (g6 h4) (o.toOk0.gl_ h2).1 g2 g3 (ih_a X k c F lev o e1 h3.1.2).1 (ih_b X k c F lev o e2 h3.2.1.2).1 (o.toOk0.gl_ h2).2.1) fun σ H Q z => lE_callK σ H Q ?_
          have : evE c (.callK f (.cons a (.cons b .nil))) = fun Γ S => ((evE c a Γ S).bind fun p => ((evE c b Γ p.2).bind fun q => some (q.1 :: ([] : List PyData), q.2)).bind fun q => some (p.1 :: q.1, q.2)).bind fun p => (gg p.1.reverse).map fun d => (d, p.2) := by
            funext Γ S
            show (evs c (.cons a (.cons b .nil)) Γ S).bind (fun p => (c.fn f).bind fun g => (g p.1.reverse).map fun d => (d, p.2)) = _
            rw [hf]
            rfl
          rw [← this]
          exact z
    · cases h
  · cases h
theorem sE_callP (f i : Nat) (as : Ts) (ih_as : SAll as) : SE (.callP f i as) := fun X k c F lev o e h => by
  unfold chkE at h
  split at h
  · rename_i x y es hv
    obtain ⟨p, q, rfl, hg⟩ := vCG_of hv
    simp only [Bool.and_eq_true, decide_eq_true_eq] at h
    obtain ⟨⟨h1, h2⟩, h3⟩ := h
    refine both ?_
    cases hf : c.pf f with
    | none =>
      refine pe_abs fun σ H Q ⟨W, Γ, S, d, S', hF, R, ev, _⟩ => ?_
      have ev : (match Γ[i]? with
        | some (some .pool) => (evs c as Γ S).bind fun p => (c.pf f).bind fun g => g p.1 p.2
        | _ => none) = some (d, S') := ev
      split at ev
      · obtain ⟨r, e1, ev⟩ := Option.bind_eq_some_iff.mp ev
        rw [hf] at ev
        cases ev
      · cases ev
    | some gg =>
      obtain ⟨x', fa, fd, ps, e1, e2, e3, e4, e5⟩ := o.pfs f gg hf
      obtain rfl : x' = x := Option.some.inj (e1.symm.trans h1)
      have cr := e5.cr o.rm o.gd e4
      have pa := snds as ih_as X k c F lev o es h3
      have pl := chks_plain as es h3
      obtain ⟨⟨y', py, rfl, hvy⟩, hpy⟩ := o.toOk0.varE h2
      refine peW (call_pe cr (o.toOk0.gl_ hg).1 e2 e3 (pa_cons hpy pa (star_cons rfl)) (o.toOk0.gl_ hg).2.1 (star_cons rfl) (back_plain pl)) fun σ H Q z => lE_callP σ H Q ?_
      have : evE c (.callP f i as) = fun Γ S => match Γ[i]? with
          | some (some .pool) => (evs c as Γ S).bind fun p => gg p.1 p.2
          | _ => none := by
        funext Γ S
        show (match Γ[i]? with
          | some (some .pool) => (evs c as Γ S).bind fun p => (c.pf f).bind fun g => g p.1 p.2
          | _ => none) = _
        rw [hf]
        rfl
      exact Eq.mp (congrArg (fun f => lE (gl X) F f σ H Q) this) z
  · cases h
theorem sE_callF (i : Nat) (a : Tm) (ih_a : SE a) : SE (.callF i a) := fun X k c F lev o e h => by
  unfold chkE at h
  split at h
  · rename_i g y q hv
    obtain rfl := vCall_of hv
    simp only [Bool.and_eq_true] at h
    obtain ⟨⟨⟨h1, h2⟩, h3⟩, h4⟩ := h
    obtain ⟨⟨x, p, rfl, hvx⟩, _⟩ := o.toOk0.varE h2
    refine both ?_
    cases hf : c.lf with
    | none =>
      refine pe_abs fun σ H Q ⟨W, Γ, S, d, S', hF, R, ev, _⟩ => ?_
      have ev : (match Γ[i]? with
        | some (some .fn) => (evE c a Γ S).bind fun p => c.lf.bind fun g => (g p.1).map fun d => (d, p.2)
        | _ => none) = some (d, S') := ev
      split at ev
      · obtain ⟨r, e1, ev⟩ := Option.bind_eq_some_iff.mp ev
        rw [hf] at ev
        cases ev
      · cases ev
    | some l =>
      refine peW (o.lf h1 l hf i x y _ p q hvx h4 (ih_a X k c F lev o y h3).1) fun σ H Q ⟨W, Γ, S, d, S', hF, R, ev, kk⟩ => ?_
      have ev : (match Γ[i]? with
        | some (some .fn) => (evE c a Γ S).bind fun p => c.lf.bind fun g => (g p.1).map fun d => (d, p.2)
        | _ => none) = some (d, S') := ev
      split at ev
      · rename_i hi
        obtain ⟨r, e1, ev⟩ := Option.bind_eq_some_iff.mp ev
        rw [hf] at ev
        obtain ⟨d', e2, ev⟩ := Option.map_eq_some_iff.mp ev
        cases ev
        obtain ⟨fa, hfa, hs⟩ := R.fns i hi
        refine ⟨⟨fa, by rw [← hF]; exact hfa, hs⟩, W, Γ, S, r.1, r.2, hF, R, e1, fun v H1 k1 R1 a1 => ⟨W.M, r.1, d, fun p hp => R1.kept p (by rw [hF]; exact hp), R1.tr, a1, e2, fun w H2 s2 a2 => kk w H2 (k1.trans (.same s2)) (R1.same s2) a2⟩⟩
      · cases ev
  · cases h
theorem sE_lc (elt : Tm) (tg : Tg) (it : Im) (ifs : Os) (own : List Nat) (ih_elt : SE elt) (ih_it : SIm it) (ih_ifs : SOs ifs) : SE (.lc elt tg it ifs own) := fun X k c F lev o e h => by
  unfold chkE at h
  split at h
  · rename_i x t y fs n sc p hv
    obtain rfl := vLc_of hv
    simp only [Bool.and_eq_true, decide_eq_true_eq] at h
    obtain ⟨⟨⟨⟨⟨⟨⟨rfl, h2⟩, h3⟩, h4⟩, h5⟩, h6⟩, h7⟩, h8⟩ := h
    have ob := fun (s : Shared) (H : Hp) (C : Addr) (cl : List (Str × Addr)) (fp : List Addr) => o.toOk0.blk sc s H C cl fp
    have hs : ∀ i ∈ slotsG tg, i ∈ own := fun i hi => by
      have := List.all_eq_true.mp h4 i hi
      simpa using this
    refine both (peW (pe_lc (g := lG (gl X) F tg) (tt := lT (gl X) F (evC c ifs)) (te := lE (gl X) F (evE c elt)) o.calm o.nd (ih_it X k c F lev o t y h5) (blk_ok o.toOk0 h2) (fun s H C cl fp => sndG (ob s H C cl fp) tg t h3) (fun s H C cl fp => sndF ifs ih_ifs _ _ c F lev ((ob s H C cl fp).okx rfl) fs h7)
      (fun s H C cl fp => (ih_elt _ _ c F lev ((ob s H C cl fp).okx rfl) x h8).1) (no_set h6 X.env)) fun σ H Q z => ?_)
    rw [ownP_snd]
    exact lE_lc hs σ H Q z
  · cases h
theorem sE_lc2 (elt : Tm) (tg : Tg) (it : Im) (ifs : Os) (tg1 : Tg) (it1 : Im) (ifs1 : Os) (own own1 : List Nat) (ih_elt : SE elt) (ih_it : SIm it) (ih_ifs : SOs ifs) (ih_it1 : SIm it1) (ih_ifs1 : SOs ifs1) : SE (.lc2 elt tg it ifs tg1 it1 ifs1 own own1) := fun X k c F lev o e h => by
  unfold chkE at h
  split at h
  · rename_i x t y fs n t1 y1 fs1 n1 sc p hv
    obtain rfl := vLc_of hv
    simp only [Bool.and_eq_true, decide_eq_true_eq] at h
    obtain ⟨⟨⟨⟨⟨⟨⟨⟨⟨⟨⟨⟨⟨⟨rfl, rfl⟩, h2⟩, h3⟩, h4⟩, h5⟩, h6⟩, h7⟩, g1⟩, g2⟩, g3⟩, g4⟩, g5⟩, g6⟩, h8⟩ := h
    have ob := fun (s : Shared) (H : Hp) (C : Addr) (cl : List (Str × Addr)) (fp : List Addr) => o.toOk0.blk sc s H C cl fp
    have hs : ∀ i ∈ slotsG tg, i ∈ own := fun i hi => by
      have := List.all_eq_true.mp h4 i hi
      simpa using this
    have hs1 : ∀ i ∈ slotsG tg1, i ∈ own1 := fun i hi => by
      have := List.all_eq_true.mp g3 i hi
      simpa using this
    have hv : ∀ i ∈ own1, i ∈ (ownP k.N own).map (·.2) := fun i hi => by
      have := List.all_eq_true.mp g1 i hi
      rw [ownP_snd]
      simpa using this
    refine both (peW (pe_lc2 (g := lG (gl X) F tg) (tt := lT (gl X) F (evC c ifs)) (wi1 := lI (gl X) F (evI c it1)) (g1 := lG (gl X) F tg1) (tt1 := lT (gl X) F (evC c ifs1)) (te := lE (gl X) F (evE c elt)) o.calm o.nd (ih_it X k c F lev o t y h5) (blk_ok o.toOk0 h2) hv (fun s H C cl fp => sndG (ob s H C cl fp) tg t h3) (fun s H C cl fp => sndF ifs ih_ifs _ _ c F lev ((ob s H C cl fp).okx rfl) fs h7)
      (fun s H C cl fp => ih_it1 _ _ c F lev ((ob s H C cl fp).okx rfl) t1 y1 g4) (fun s H C cl fp => sndG (ob s H C cl fp) tg1 t1 g2) (fun s H C cl fp => sndF ifs1 ih_ifs1 _ _ c F lev ((ob s H C cl fp).okx rfl) fs1 g6)
      (fun s H C cl fp => (ih_elt _ _ c F lev ((ob s H C cl fp).okx rfl) x h8).1) (no_set h6 X.env) (no_set g5)) fun σ H Q z => ?_)
    rw [ownP_snd]
    exact lE_lc2 hs hs1 σ H Q z
  · cases h
theorem sE_settle (caps : List Nat) (b : Tm) (ih_b : SE b) : SE (.settle caps b) := fun X k c F lev o e h => by
  unfold chkE at h
  split at h
  · rename_i f l q hv
    obtain rfl := vCall_of hv
    split at h
    · rename_i x p args body sc pos hn hl
      obtain rfl := vName_of hn
      obtain rfl := vLam_of hl
      simp only [Bool.and_eq_true, decide_eq_true_eq] at h
      obtain ⟨⟨⟨h1, rfl⟩, h2⟩, h3⟩ := h
      split at h3
      · rename_i y hy
        simp only [Bool.and_eq_true] at h3
        exact both (o.st h1 h2 caps b y args body sc pos p q hy h3.1 fun X' lev' o' => (ih_b X' _ c _ lev' (o'.okx rfl) body h3.2).1)
      · cases h3
    · cases h
  · cases h
theorem sI_seq (a : Tm) (ih_a : SE a) : SIm (.seq a) := fun X k c F lev o tg e h => piW (pi_seq (ih_a X k c F lev o e h).1) lI_seq
theorem sI_rng1 (a : Tm) (ih_a : SE a) : SIm (.rng1 a) := fun X k c F lev o tg e h => by
  unfold chkI at h
  split at h
  · rename_i x y hv
    obtain ⟨p, q, rfl, hg⟩ := vCG_of hv
    simp only [Bool.and_eq_true, decide_eq_true_eq] at h
    obtain ⟨⟨rfl, h2⟩, h3⟩ := h
    exact piW (pi_range1 (o.toOk0.gl_ hg).1 (o.blt "range" (by decide)) (pa1 (ih_a X k c F lev o y h2).1 h3) (star1 h3)) lI_rng1
  · cases h
theorem sI_rng2 (a b : Tm) (ih_a : SE a) (ih_b : SE b) : SIm (.rng2 a b) := fun X k c F lev o tg e h => by
  unfold chkI at h
  split at h
  · rename_i x y z hv
    obtain ⟨p, q, rfl, hg⟩ := vCG_of hv
    simp only [Bool.and_eq_true, decide_eq_true_eq] at h
    obtain ⟨⟨⟨⟨rfl, h2⟩, h3⟩, h4⟩, h5⟩ := h
    exact piW (pi_range2 (o.toOk0.gl_ hg).1 (o.blt "range" (by decide)) (pa2 (ih_a X k c F lev o y h2).1 (ih_b X k c F lev o z h3).1 h4 h5) (star2 h4 h5) (star1 h5)) lI_rng2
  · cases h
theorem sI_enum (a : Tm) (ih_a : SE a) : SIm (.enum a) := fun X k c F lev o tg e h => by
  unfold chkI at h
  split at h
  · rename_i x y hv
    obtain ⟨p, q, rfl, hg⟩ := vCG_of hv
    simp only [Bool.and_eq_true, decide_eq_true_eq] at h
    obtain ⟨⟨⟨rfl, h2⟩, h3⟩, h4⟩ := h
    obtain ⟨es, ht⟩ := Option.isSome_iff_exists.mp h4
    obtain ⟨kk, p', rfl⟩ := vTup_of ht
    have ha := pa1 (ih_a X k c F lev o y h2).1 h3
    have hm := o.blt "enumerate" (by decide)
    exact piW (piOr (pi_enum (o.toOk0.gl_ hg).1 hm ha (star1 h3)) (pi_enumT (o.toOk0.gl_ hg).1 hm ha (star1 h3))) lI_enum
  · cases h
theorem sI_zip (a b : Tm) (ih_a : SE a) (ih_b : SE b) : SIm (.zip a b) := fun X k c F lev o tg e h => by
  unfold chkI at h
  split at h
  · rename_i x y z hv
    obtain ⟨p, q, rfl, hg⟩ := vCG_of hv
    simp only [Bool.and_eq_true, decide_eq_true_eq] at h
    obtain ⟨⟨⟨⟨⟨rfl, h2⟩, h3⟩, h4⟩, h5⟩, h6⟩ := h
    obtain ⟨es, ht⟩ := Option.isSome_iff_exists.mp h6
    obtain ⟨kk, p', rfl⟩ := vTup_of ht
    exact piW (RZ.pi_zipA (o.toOk0.gl_ hg).1 (o.blt "zip" (by decide)) (pa2 (ih_a X k c F lev o y h2).1 (ih_b X k c F lev o z h3).1 h4 h5) (star_cons h4) (by rw [star1 h5]; rfl)) lI_zip
  · cases h
theorem sI_dic (a : Tm) (ih_a : SE a) : SIm (.dic a) := fun X k c F lev o tg e h => piW (pi_dic (ih_a X k c F lev o e h).1) lI_dic
mutual
theorem sE : ∀ t : Tm, SE t
  | .var i => sE_var i 
  | .non  => sE_non  
  | .bl b => sE_bl b 
  | .int b => sE_int b 
  | .str b => sE_str b 
  | .glo g => sE_glo g 
  | .bin op a b => sE_bin op a b (sE a) (sE b)
  | .neg a => sE_neg a (sE a)
  | .cmp op a b => sE_cmp op a b (sE a) (sE b)
  | .cmp2 o1 o2 a b d => sE_cmp2 o1 o2 a b d (sE a) (sE b) (sE d)
  | .isc ng a cc => sE_isc ng a cc (sE a)
  | .ino ng a i => sE_ino ng a i (sE a)
  | .boo op as => sE_boo op as (sAll as)
  | .not a => sE_not a (sE a)
  | .ite cc a b => sE_ite cc a b (sE cc) (sE a) (sE b)
  | .ix a b => sE_ix a b (sE a) (sE b)
  | .ixo i b => sE_ixo i b (sE b)
  | .sl a lo hi => sE_sl a lo hi (sE a) (sOs lo) (sOs hi)
  | .tup as => sE_tup as (sAll as)
  | .lst as => sE_lst as (sAll as)
  | .dic0  => sE_dic0  
  | .dic1 a b => sE_dic1 a b (sE a) (sE b)
  | .bi f a => sE_bi f a (sE a)
  | .bio f i => sE_bio f i 
  | .bj f a b => sE_bj f a b (sE a) (sE b)
  | .isa a t => sE_isa a t (sE a)
  | .sset a => sE_sset a (sE a)
  | .lrg as => sE_lrg as (sAll as)
  | .vmx a => sE_vmx a (sE a)
  | .dic a => sE_dic a (sE a)
  | .get a b d => sE_get a b d (sE a) (sE b) (sE d)
  | .geto i b d => sE_geto i b d (sE b) (sE d)
  | .upper a => sE_upper a (sE a)
  | .call f as => sE_call f as (sAll as)
  | .callK f as => sE_callK f as (sAll as)
  | .callP f i as => sE_callP f i as (sAll as)
  | .callF i a => sE_callF i a (sE a)
  | .lc elt tg it ifs own => sE_lc elt tg it ifs own (sE elt) (sIm it) (sOs ifs)
  | .lc2 elt tg it ifs tg1 it1 ifs1 own own1 => sE_lc2 elt tg it ifs tg1 it1 ifs1 own own1 (sE elt) (sIm it) (sOs ifs) (sIm it1) (sOs ifs1)
  | .settle caps b => sE_settle caps b (sE b)
theorem sAll : ∀ as : Ts, SAll as
  | .nil => trivial
  | .cons a as => ⟨sE a, sAll as⟩
theorem sOs : ∀ b : Os, SOs b
  | .no => trivial
  | .so a => sE a
theorem sIm : ∀ b : Im, SIm b
  | .seq a => sI_seq a (sE a)
  | .rng1 a => sI_rng1 a (sE a)
  | .rng2 a b => sI_rng2 a b (sE a) (sE b)
  | .enum a => sI_enum a (sE a)
  | .zip a b => sI_zip a b (sE a) (sE b)
  | .dic a => sI_dic a (sE a)
end
end K26
namespace K26
open PySem PySem.Spec PyProof.Rows L2 PySem.W PySem.SeqAt

/-! ### statements over data -/
/-- what holds at an end -/
def EndO (G : Gl0) (W : Wx) (H : Hp) (D : Ends) : Out → Prop
  | .nx Γ' S' => ∀ W' σ' H', Ext W W' H H' → Rep G W' H' σ' Γ' S' → D.nx σ' H'
  | .bk Γ' S' => ∀ W' σ' H', Ext W W' H H' → Rep G W' H' σ' Γ' S' → D.bk σ' H'
  | .rt d S' => ∀ v W' H', Ext W W' H H' → Trk W'.M H' → (∀ a, W'.base a → W'.M a) → PoolAt G W' H' S' → At G W'.M H' v d → D.rt v H'
def lS (G : Gl0) (F : Fx) (f : Gm → Pl → Option Out) : TS := fun D σ H => ∃ W Γ S o, W.F = F ∧ Rep G W H σ Γ S ∧ f Γ S = some o ∧ EndO G W H D o
section
variable {X : Cx} {F : Fx} {G : Gl0} {W W1 : Wx} {H H1 : Hp} {D : Ends} {o : Out} {f g : Gm → Pl → Re} {sf sg : Gm → Pl → Option Out}
theorem EndO.ext (k : EndO G W H D o) (e : Ext W W1 H H1) : EndO G W1 H1 D o := by
  cases o with
  | nx Γ S => exact fun W' σ' H' e' R => k W' σ' H' (e.trans e') R
  | bk Γ S => exact fun W' σ' H' e' R => k W' σ' H' (e.trans e') R
  | rt d S => exact fun v W' H' e' t b q a => k v W' H' (e.trans e') t b q a
theorem lS_nil (D : Ends) (σ : L2.St) (H : Hp) (q : lS G F (fun Γ S => some (.nx Γ S)) D σ H) : tNext D σ H := by
  obtain ⟨W, Γ, S, o, hF, R, e, k⟩ := q
  cases e
  exact k W σ H (.refl R) R
theorem lS_cons (D : Ends) (σ : L2.St) (H : Hp) (q : lS G F (fun Γ S => (sf Γ S).bind fun o => o.thn sg) D σ H) : tSeq (lS G F sf) (lS G F sg) D σ H := by
  obtain ⟨W, Γ, S, o, hF, R, e, k⟩ := q
  obtain ⟨o1, e1, e2⟩ := Option.bind_eq_some_iff.mp e
  refine ⟨W, Γ, S, o1, hF, R, e1, ?_⟩
  cases o1 with
  | nx Γ1 S1 => exact fun W' σ' H' x R' => ⟨W', Γ1, S1, o, x.F.trans hF, R', e2, k.ext x⟩
  | bk Γ1 S1 =>
    have e2 : some (Out.bk Γ1 S1) = some o := e2
    cases e2
    exact k
  | rt d S1 =>
    have e2 : some (Out.rt d S1) = some o := e2
    cases e2
    exact k
theorem lS_set {i : Nat} (D : Ends) (σ : L2.St) (H : Hp) (q : lS G F (fun Γ S => (f Γ S).bind fun p => if i < Γ.length then some (.nx (Γ.set i (some (.d p.1))) p.2) else none) D σ H) : tAsg (lE G F f) (gName i) D σ H := by
  obtain ⟨W, Γ, S, o, hF, R, e, k⟩ := q
  obtain ⟨p, e1, e2⟩ := Option.bind_eq_some_iff.mp e
  split at e2
  · cases e2
    exact ⟨W, Γ, S, p.1, p.2, hF, R, e1, fun v H1 k1 R1 a1 => k W _ H1 (k1.ext R) (R1.set a1)⟩
  · cases e2
theorem lS_asg {tg : Tg} (D : Ends) (σ : L2.St) (H : Hp) (q : lS G F (fun Γ S => (f Γ S).bind fun p => (bindG tg p.1 Γ p.2).map fun q => .nx q.1 q.2) D σ H) : tAsg (lE G F f) (lG G F tg) D σ H := by
  obtain ⟨W, Γ, S, o, hF, R, e, k⟩ := q
  obtain ⟨p, e1, e2⟩ := Option.bind_eq_some_iff.mp e
  obtain ⟨r, e3, e2⟩ := Option.map_eq_some_iff.mp e2
  cases e2
  exact ⟨W, Γ, S, p.1, p.2, hF, R, e1, fun v H1 k1 R1 a1 => ⟨W, Γ, p.2, p.1, r.1, r.2, hF, R1, a1, e3, fun σ2 H2 k2 R2 _ => k W σ2 H2 ((k1.trans k2).ext R) R2⟩⟩
theorem lS_aug {i : Nat} (D : Ends) (σ : L2.St) (H : Hp) (q : lS G F (fun Γ S => match Γ[i]? with
    | some (some (.d x)) => (f Γ S).bind fun p => (intD x).bind fun a => (intD p.1).map fun b => .nx (Γ.set i (some (.d (.int (a + b))))) p.2
    | _ => none) D σ H) : tAug i (lE G F f) (ipI fun i j => i + j) D σ H := by
  obtain ⟨W, Γ, S, o, hF, R, e, k⟩ := q
  dsimp only at e
  split at e
  · rename_i x hx
    obtain ⟨p, e1, e2⟩ := Option.bind_eq_some_iff.mp e
    obtain ⟨a, e3, e2⟩ := Option.bind_eq_some_iff.mp e2
    obtain ⟨b, e4, e2⟩ := Option.map_eq_some_iff.mp e2
    cases e2
    obtain ⟨v, hv, av⟩ := R.dat i _ hx
    have ex : x = .int a := by cases x <;> simp [intD] at e3; rw [e3]
    have ep : p.1 = .int b := by cases h : p.1 <;> rw [h] at e4 <;> simp [intD] at e4; rw [e4]
    subst ex
    refine ⟨v, hv, W, Γ, S, p.1, p.2, hF, R, e1, fun w H1 k1 R1 a1 => ?_⟩
    rw [ep] at a1
    exact ⟨a, b, av.int_of, a1.int_of, k W _ H1 (k1.ext R) (R1.set (.int _))⟩
  · cases e
theorem lS_ret (D : Ends) (σ : L2.St) (H : Hp) (q : lS G F (fun Γ S => (f Γ S).bind fun p => some (.rt p.1 p.2)) D σ H) : tRet (lE G F f) D σ H := by
  obtain ⟨W, Γ, S, o, hF, R, e, k⟩ := q
  obtain ⟨p, e1, e2⟩ := Option.bind_eq_some_iff.mp e
  cases e2
  exact ⟨W, Γ, S, p.1, p.2, hF, R, e1, fun v H1 k1 R1 a1 => k v W H1 (k1.ext R) R1.tr R1.sub R1.pool a1⟩
theorem lS_ife {c : Gm → Pl → Re} (D : Ends) (σ : L2.St) (H : Hp) (q : lS G F (fun Γ S => (c Γ S).bind fun p => (boolD p.1).bind fun t => cond t (sf Γ p.2) (sg Γ p.2)) D σ H) : tIfS (lT G F (tst c)) (lS G F sf) (lS G F sg) D σ H := by
  obtain ⟨W, Γ, S, o, hF, R, e, k⟩ := q
  obtain ⟨p, e1, e⟩ := Option.bind_eq_some_iff.mp e
  obtain ⟨b, e2, e⟩ := Option.bind_eq_some_iff.mp e
  refine ⟨W, Γ, S, b, p.2, hF, R, by unfold tst; rw [e1]; simp [e2], fun H1 k1 R1 => ?_⟩
  cases b with
  | true => exact ⟨W, Γ, p.2, o, hF, R1, e, k.ext (k1.ext R)⟩
  | false => exact ⟨W, Γ, p.2, o, hF, R1, e, k.ext (k1.ext R)⟩
theorem lS_brk (D : Ends) (σ : L2.St) (H : Hp) (q : lS G F (fun Γ S => some (.bk Γ S)) D σ H) : tBreak D σ H := by
  obtain ⟨W, Γ, S, o, hF, R, e, k⟩ := q
  cases e
  exact k W σ H (.refl R) R
theorem lS_whl {c : Gm → Pl → Re} {n : Nat} (D : Ends) (σ : L2.St) (H : Hp) (q : lS G F (fun Γ S => whlRun c sf n Γ S) D σ H) : tWhile (lT G F (tst c)) (lS G F sf) D σ H := by
  obtain ⟨W, Γ, S, o, hF, R, e, k⟩ := q
  refine ⟨fun m σ' H' => ∃ W1 Γ1 S1, Ext W W1 H H' ∧ W1.F = F ∧ Rep G W1 H' σ' Γ1 S1 ∧ whlRun c sf m Γ1 S1 = some o, ⟨n, W, Γ, S, .refl R, hF, R, e⟩, ?_⟩
  rintro m σ1 H1 ⟨W1, Γ1, S1, x1, hF1, R1, e1⟩
  cases m with
  | zero => cases e1
  | succ m =>
    have e1 : ((c Γ1 S1).bind fun p => (boolD p.1).bind fun t => cond t ((sf Γ1 p.2).bind fun o => match o with
      | .nx Γ S => whlRun c sf m Γ S
      | .bk Γ S => some (.nx Γ S)
      | .rt d S => some (.rt d S)) (some (.nx Γ1 p.2))) = some o := e1
    obtain ⟨p, e2, e1⟩ := Option.bind_eq_some_iff.mp e1
    obtain ⟨b, e3, e1⟩ := Option.bind_eq_some_iff.mp e1
    refine ⟨W1, Γ1, S1, b, p.2, hF1, R1, by unfold tst; rw [e2]; simp [e3], fun H2 k2 R2 => ?_⟩
    have x2 : Ext W W1 H H2 := x1.trans (k2.ext R1)
    cases b with
    | false =>
      have e1 : some (Out.nx Γ1 p.2) = some o := e1
      cases e1
      exact k W1 _ H2 x2 R2
    | true =>
      obtain ⟨o1, e4, e5⟩ := Option.bind_eq_some_iff.mp e1
      simp only [if_true]
      refine ⟨fun σ' H' => ∃ W1 Γ1 S1, Ext W W1 H H' ∧ W1.F = F ∧ Rep G W1 H' σ' Γ1 S1 ∧ whlRun c sf m Γ1 S1 = some o, fun σ' H' z => ⟨m, Nat.lt_succ_self m, z⟩, W1, Γ1, p.2, o1, hF1, R2, e4, ?_⟩
      cases o1 with
      | nx Γ2 S2 => exact fun W' σ' H' x R' => ⟨W', Γ2, S2, x2.trans x, x.F.trans hF1, R', e5⟩
      | bk Γ2 S2 =>
        have e5 : some (Out.nx Γ2 S2) = some o := e5
        cases e5
        exact fun W' σ' H' x R' => k W' σ' H' (x2.trans x) R'
      | rt d S2 =>
        have e5 : some (Out.rt d S2) = some o := e5
        cases e5
        exact fun v W' H' x t b q a => k v W' H' (x2.trans x) t b q a
/-- the loop of a for -/
theorem for_core {tg : Tg} {ds : List PyData} {J : It} {Γ : Gm} {S : Pl} {σ : L2.St} (hF : W.F = F) (R : Rep G W H σ Γ S) (wk : Wk G W.M H ds J) (e : forRun (fun x Γ S => (bindG tg x Γ S).bind fun q => sf q.1 q.2) ds Γ S = some o) (k : EndO G W H D o) :
    ∃ Wf : Nat → Nat → L2.St → Hp → Prop, (∃ m, Wf 0 m σ H) ∧ ∀ i m σ H, Wf i m σ H →
      (J.stop i H ∧ D.nx σ H) ∨ (J.go i H ∧ ∃ N : L2.St → Hp → Prop, (∀ σ' H', N σ' H' → ∃ m', m' < m ∧ Wf (i + 1) m' σ' H') ∧ ∀ x H', J.yld i H x H' → lG G F tg x σ H' fun σ2 H2 => lS G F sf { D with nx := N, ct := N, bk := D.nx } σ2 H2) := by
  let Iv : Nat → L2.St → Hp → Prop := fun i σ' H' => i ≤ ds.length ∧ ∃ W1 Γ1 S1, Ext W W1 H H' ∧ W1.F = F ∧ Rep G W1 H' σ' Γ1 S1 ∧ forRun (fun x Γ S => (bindG tg x Γ S).bind fun q => sf q.1 q.2) (ds.drop i) Γ1 S1 = some o
  refine ⟨fun i m σ' H' => m = ds.length - i ∧ Iv i σ' H', ⟨_, rfl, Nat.zero_le _, W, Γ, S, .refl R, hF, R, e⟩, ?_⟩
  rintro i m σ1 H1 ⟨rfl, hle, W1, Γ1, S1, x1, hF1, R1, e1⟩
  by_cases hi : i < ds.length
  · rw [List.drop_eq_getElem_cons hi] at e1
    obtain ⟨o1, e2, e3⟩ := Option.bind_eq_some_iff.mp e1
    obtain ⟨b, e4, e5⟩ := Option.bind_eq_some_iff.mp e2
    refine .inr ⟨wk.go i W1.M H1 x1.fut hi, Iv (i + 1), fun σ' H' z => ⟨_, by omega, rfl, z⟩, fun v H2 y => ?_⟩
    obtain ⟨s2, a2⟩ := wk.yld i W1.M H1 v H2 ds[i] x1.fut R1.tr (List.getElem?_eq_getElem hi) y
    refine ⟨W1, Γ1, S1, ds[i], b.1, b.2, hF1, R1.same s2, a2, e4, fun σ3 H3 k3 R3 _ => ⟨W1, b.1, b.2, o1, hF1, R3, e5, ?_⟩⟩
    have x3 : Ext W W1 H H3 := x1.trans (((Keep.same s2).trans k3).ext R1)
    cases o1 with
    | nx Γ2 S2 => exact fun W' σ' H' x R' => ⟨hi, W', Γ2, S2, x3.trans x, x.F.trans hF1, R', e3⟩
    | bk Γ2 S2 =>
      have e3 : some (Out.nx Γ2 S2) = some o := e3
      cases e3
      exact fun W' σ' H' x R' => k W' σ' H' (x3.trans x) R'
    | rt d S2 =>
      have e3 : some (Out.rt d S2) = some o := e3
      cases e3
      exact fun v W' H' x t b q a => k v W' H' (x3.trans x) t b q a
  · have ei : i = ds.length := by omega
    subst ei
    rw [List.drop_length] at e1
    have e1 : some (Out.nx Γ1 S1) = some o := e1
    cases e1
    exact .inl ⟨wk.stop W1.M H1 x1.fut, k W1 _ H1 x1 R1⟩
theorem lS_for {tg : Tg} {it : Gm → Pl → Option (List PyData × Pl)} (D : Ends) (σ : L2.St) (H : Hp) (q : lS G F (fun Γ S => (it Γ S).bind fun p => forRun (fun x Γ S => (bindG tg x Γ S).bind fun q => sf q.1 q.2) p.1 Γ p.2) D σ H) : tFor (lI G F it) (lG G F tg) (lS G F sf) D σ H := by
  obtain ⟨W, Γ, S, o, hF, R, e, k⟩ := q
  obtain ⟨p, e1, e2⟩ := Option.bind_eq_some_iff.mp e
  exact ⟨W, Γ, S, p.1, p.2, hF, R, e1, fun J H1 k1 R1 wk => for_core hF R1 wk e2 (k.ext (k1.ext R))⟩
end
end K26
namespace K26
open PySem PySem.Spec PyProof.Rows L2 PySem.W PySem.SeqAt

def ownS : PyData → Sl
  | .list xs => .ownL xs
  | .dict kvs => .ownD kvs
  | d => .d d
/-- one more object that is followed -/
def Wx.more (W : Wx) (q : Addr) : Wx := { W with M := fun a => W.M a ∨ a = q }
/-- one that is no longer -/
def Wx.rel (W : Wx) (q : Addr) : Wx := { W with M := fun a => W.M a ∧ a ≠ q }
section
variable {X : Cx} {F : Fx} {G : Gl0} {W W1 : Wx} {H H1 : Hp} {σ : L2.St} {Γ : Gm} {S : Pl} {D : Ends} {o : Out} {f g : Gm → Pl → Re} {sf sg : Gm → Pl → Option Out}
theorem PoolAt.mono {W' : Wx} {H' : Hp} (q : PoolAt G W H S) (hb : W'.base = W.base) (hp : W'.pl = W.pl) (hT : W'.T = W.T) (hF : W'.F = W.F) (f : Fut W.M W'.M H H') (kb : ∀ a o, W.base a → H a = some o → H' a = some o) (kc : ∀ a n, H a = some (LamX.CodeO a n) → H' a = some (LamX.CodeO a n)) : PoolAt G W' H' S := by
  unfold PoolAt at q ⊢
  rw [hp]
  cases h : W.pl with
  | none => rw [h] at q; exact q
  | some p =>
    rw [h] at q
    obtain ⟨vs, z1, z2⟩ := q.at_
    refine ⟨by rw [hb]; exact q.base, fun t ht => ?_, fun t ht => by rw [hb]; exact q.tb t (by rw [← hT]; exact ht), ⟨vs, kb _ _ q.base z1, z2.fut f⟩, q.z, by rw [hT, hF]; exact q.tt⟩
    rw [hT] at ht
    obtain ⟨ps, t1, t2, t3⟩ := q.tabs t ht
    exact ⟨ps, kb _ _ (q.tb t ht) t1, t2, fun pos cv hc => let ⟨c, c1, c2⟩ := t3 pos cv hc; ⟨c, c1, kc _ _ c2⟩⟩
theorem Rep.own_at (R : Rep G W H σ Γ S) {i : Nat} (h : OwnAt Γ i) : ∃ q, σ[i]? = some (some (.ref q)) ∧ W.M q ∧ ¬ W.base q ∧ ¬ W.ac q ∧ (∀ j, OwnAt Γ j → j ≠ i → σ[j]? ≠ some (some (.ref q))) ∧
    (∀ xs, Γ[i]? = some (some (.ownL xs)) → xs.length ≤ sizeLine ∧ ∃ vs, H q = some (.lst vs) ∧ AtL G W.M H vs xs) ∧
    (∀ kvs, Γ[i]? = some (some (.ownD kvs)) → kvs.length ≤ sizeLine ∧ (q == sysModules) = false ∧ ∃ xs, (∃ ep, H q = some (dicO G.P G.w q xs ep)) ∧ (xs.map (·.1)).Nodup ∧ AtD G W.M H xs kvs) := by
  obtain ⟨ow, h1, h2, h3, h4⟩ := R.own
  have st : ∀ {j}, OwnAt Γ j → σ[j]? = some (some (.ref (ow j))) := fun {j} ⟨s, e, z⟩ => by
    cases s with
    | ownL xs => exact (h3 j xs e).1
    | ownD kvs => exact (h4 j kvs e).1
    | d x => cases z
    | pool => cases z
    | fn => cases z
  refine ⟨ow i, st h, (h1 i h).1, (h1 i h).2.1, (h1 i h).2.2, fun j hj ne e => ?_, fun xs e => (h3 i xs e).2, fun kvs e => (h4 i kvs e).2⟩
  rw [st hj] at e
  have e : ow j = ow i := by simpa using e
  exact ne (h2 j i hj h e)
/-- an object of the def's own is made, is changed -/
theorem Rep.raw {i : Nat} {q : Addr} {ob : HO} {d : PyData} (R : Rep G W H σ Γ S) (hq : H q = none ∨ (W.M q ∧ ¬ W.base q ∧ ¬ W.ac q ∧ (∀ n, H q ≠ some (LamX.CodeO q n)) ∧ ∀ j, OwnAt Γ j → j ≠ i → σ[j]? ≠ some (some (.ref q)))) (r : Raw G W.M H q ob d) :
    Rep G (W.more q) (upd H q ob) (σ.set i (some (.ref q))) (Γ.set i (some (ownS d))) S ∧ Ext W (W.more q) H (upd H q ob) := by
  have hn : H q = none → ∀ a, W.M a → a ≠ q := fun h a m e => by
    obtain ⟨o, e'⟩ := R.trk a m
    rw [e, h] at e'; cases e'
  have nb : ¬ W.base q := hq.elim (fun h b => hn h q (R.sub q b) rfl) fun h => h.2.1
  have na : ¬ W.ac q := hq.elim (fun h b => hn h q (R.acs q b) rfl) fun h => h.2.2.1
  have nM : ∀ a o, ¬ W.M a → H a = some o → a ≠ q := fun a o n e z => hq.elim (fun h => by rw [z, h] at e; cases e) fun h => n (by rw [z]; exact h.1)
  have fu : Fut W.M (W.more q).M H (upd H q ob) := fun a o n e => ⟨by rw [upd_ne (nM a o n e)]; exact e, fun z => z.elim n (nM a o n e)⟩
  have bq : ∀ a, W.base a → a ≠ q := fun a b e => nb (by rw [← e]; exact b)
  have hdo : ∃ x, ownS d = x ∧ x.own = true := by cases r <;> exact ⟨_, rfl, rfl⟩
  have gs : ∀ {j : Nat} {s : Sl}, (Γ.set i (some (ownS d)))[j]? = some (some s) → (j = i ∧ s = ownS d ∧ i < Γ.length) ∨ (j ≠ i ∧ Γ[j]? = some (some s)) := fun {j s} h => by
    by_cases e : i = j
    · subst e
      by_cases hl : i < Γ.length
      · rw [List.getElem?_set_self hl] at h
        cases h
        exact .inl ⟨rfl, rfl, hl⟩
      · rw [List.getElem?_eq_none (by simpa using hl)] at h
        cases h
    · rw [List.getElem?_set_ne e] at h
      exact .inr ⟨fun z => e z.symm, h⟩
  have ss : ∀ {j : Nat}, j ≠ i → (σ.set i (some (.ref q)))[j]? = σ[j]? := fun {j} e => List.getElem?_set_ne (fun z => e z.symm)
  obtain ⟨x, ex, ox⟩ := hdo
  have noo : ∀ {s : Sl}, s.own = false → s ≠ ownS d := fun h e => by rw [e, ex, ox] at h; cases h
  refine ⟨⟨fun a h => ?_, fun a h => .inl (R.sub a h), fun a h => .inl (R.acs a h), by simpa using R.len, fun j y h => ?_, fun j h => ?_, fun j h => ?_, fun p hp => ?_, ?_, ?_⟩, rfl, rfl, rfl, rfl, rfl, R.cm, fun a h => ?_, fun a o nc hbm e => ?_⟩
  · by_cases e : a = q
    · rw [e, upd_same]; exact ⟨_, rfl⟩
    · rw [upd_ne e]
      exact R.trk a (h.elim id fun z => (e z).elim)
  · rcases gs h with ⟨_, e, _⟩ | ⟨e, h⟩
    · exact (noo rfl e).elim
    · rw [ss e]
      obtain ⟨v, hv, av⟩ := R.dat j y h
      exact ⟨v, hv, av.fut fu⟩
  · rcases gs h with ⟨_, e, _⟩ | ⟨e, h⟩
    · exact (noo rfl e).elim
    · rw [ss e]; exact R.pol j h
  · rcases gs h with ⟨_, e, _⟩ | ⟨e, h⟩
    · exact (noo rfl e).elim
    · rw [ss e]; exact R.fns j h
  · obtain ⟨k1, k2⟩ := R.kept p hp
    exact ⟨(fu _ _ k1 k2).2, (fu _ _ k1 k2).1⟩
  · have R' := R
    obtain ⟨ow, h1, h2, h3, h4⟩ := R.own
    have st : ∀ {j}, OwnAt Γ j → σ[j]? = some (some (.ref (ow j))) := fun {j} ⟨s, e, z⟩ => by
      cases s with
      | ownL xs => exact (h3 j xs e).1
      | ownD kvs => exact (h4 j kvs e).1
      | d x => cases z
      | pool => cases z
      | fn => cases z
    have nq : ∀ {j}, OwnAt Γ j → j ≠ i → ow j ≠ q := fun {j} hj ne e => hq.elim (fun h => hn h _ (h1 j hj).1 e) fun h => h.2.2.2.2 j hj ne (by rw [st hj, e])
    have old : ∀ {j}, OwnAt (Γ.set i (some (ownS d))) j → j ≠ i → OwnAt Γ j := fun {j} ⟨s, h, z⟩ ne => by
      rcases gs h with ⟨e, _, _⟩ | ⟨_, h⟩
      · exact (ne e).elim
      · exact ⟨s, h, z⟩
    refine ⟨fun j => if j = i then q else ow j, fun j h => ?_, fun j l a b e => ?_, fun j xs h => ?_, fun j kvs h => ?_⟩
    · by_cases e : j = i
      · simp only [if_pos e]; exact ⟨.inr rfl, nb, na⟩
      · simp only [if_neg e]
        have := h1 j (old h e)
        exact ⟨.inl this.1, this.2.1, this.2.2⟩
    · by_cases ej : j = i
      · by_cases el : l = i
        · rw [ej, el]
        · simp only [if_pos ej, if_neg el] at e
          exact (nq (old b el) el e.symm).elim
      · by_cases el : l = i
        · simp only [if_pos el, if_neg ej] at e
          exact (nq (old a ej) ej e).elim
        · simp only [if_neg el, if_neg ej] at e
          exact h2 j l (old a ej) (old b el) e
    · rcases gs h with ⟨e, e2, hl⟩ | ⟨e, h⟩
      · subst e
        simp only [if_true]
        cases r with
        | lst a z =>
          cases e2
          exact ⟨List.getElem?_set_self (by rw [R'.len]; exact hl), by rw [sl_eq]; exact z, _, upd_same, a.fut fu⟩
        | dic m nd z a => cases e2
      · simp only [if_neg e]
        obtain ⟨q1, q2, vs, q3, q4⟩ := h3 j xs h
        rw [ss e]
        exact ⟨q1, q2, vs, by rw [upd_ne (nq ⟨_, h, rfl⟩ e)]; exact q3, q4.fut fu⟩
    · rcases gs h with ⟨e, e2, hl⟩ | ⟨e, h⟩
      · subst e
        simp only [if_true]
        cases r with
        | lst a z => cases e2
        | dic m nd z a =>
          cases e2
          exact ⟨List.getElem?_set_self (by rw [R'.len]; exact hl), by rw [sl_eq]; exact z, m, _, ⟨_, upd_same⟩, nd, a.fut fu⟩
      · simp only [if_neg e]
        obtain ⟨q1, q2, q3, xs, q4, q5, q6⟩ := h4 j kvs h
        rw [ss e]
        exact ⟨q1, q2, q3, xs, let ⟨ep, q4⟩ := q4; ⟨ep, by rw [upd_ne (nq ⟨_, h, rfl⟩ e)]; exact q4⟩, q5, q6.fut fu⟩
  · refine R.pool.mono (W' := W.more q) rfl rfl rfl rfl fu (fun a o b e => by rw [upd_ne (bq a b)]; exact e) fun a n e => ?_
    by_cases z : a = q
    · subst z
      exact hq.elim (fun h => by rw [h] at e; cases e) fun h => (h.2.2.2.1 n e).elim
    · rw [upd_ne z]; exact e
  · rcases h with h | h
    · exact .inl h
    · subst h
      exact hq.elim .inr fun z => .inl z.1
  · rw [upd_ne (hbm.elim (bq a) fun n => nM a o n e)]
    exact e
/-- an object of the def's own becomes a datum -/
theorem Rep.rel {i : Nat} {q : Addr} {d : PyData} (R : Rep G W H σ Γ S) (ho : OwnAt Γ i) (hs : σ[i]? = some (some (.ref q))) (hd : At G (W.rel q).M H (.ref q) d) :
    Rep G (W.rel q) H σ (Γ.set i (some (.d d))) S ∧ Ext W (W.rel q) H H := by
  obtain ⟨q', e1, hM, nb, na, inj, _, _⟩ := R.own_at ho
  obtain rfl : q' = q := by rw [hs] at e1; cases e1; rfl
  have fu : Fut W.M (W.rel q').M H H := .less fun a h => h.1
  have gs : ∀ {j : Nat} {s : Sl}, (Γ.set i (some (.d d)))[j]? = some (some s) → (j = i ∧ s = .d d ∧ i < Γ.length) ∨ (j ≠ i ∧ Γ[j]? = some (some s)) := fun {j s} h => by
    by_cases e : i = j
    · subst e
      by_cases hl : i < Γ.length
      · rw [List.getElem?_set_self hl] at h
        cases h
        exact .inl ⟨rfl, rfl, hl⟩
      · rw [List.getElem?_eq_none (by simpa using hl)] at h
        cases h
    · rw [List.getElem?_set_ne e] at h
      exact .inr ⟨fun z => e z.symm, h⟩
  have nebase : ∀ a, W.base a → a ≠ q' := fun a b e => nb (by rw [← e]; exact b)
  refine ⟨⟨fun a h => R.trk a h.1, fun a h => ⟨R.sub a h, nebase a h⟩, fun a h => ⟨R.acs a h, fun e => na (by rw [← e]; exact h)⟩, by simpa using R.len, fun j y h => ?_, fun j h => ?_, fun j h => ?_, fun p hp => ?_, ?_, ?_⟩,
    rfl, rfl, rfl, rfl, rfl, R.cm, fun a h => .inl h.1, fun a o _ _ e => e⟩
  · rcases gs h with ⟨rfl, e, hl⟩ | ⟨e, h⟩
    · cases e
      exact ⟨_, hs, hd⟩
    · obtain ⟨v, hv, av⟩ := R.dat j y h
      exact ⟨v, hv, av.fut fu⟩
  · rcases gs h with ⟨_, e, _⟩ | ⟨e, h⟩
    · cases e
    · exact R.pol j h
  · rcases gs h with ⟨_, e, _⟩ | ⟨e, h⟩
    · cases e
    · exact R.fns j h
  · obtain ⟨k1, k2⟩ := R.kept p hp
    exact ⟨fun z => k1 z.1, k2⟩
  · obtain ⟨ow, h1, h2, h3, h4⟩ := R.own
    have st : ∀ {j}, OwnAt Γ j → σ[j]? = some (some (.ref (ow j))) := fun {j} ⟨s, e, z⟩ => by
      cases s with
      | ownL xs => exact (h3 j xs e).1
      | ownD kvs => exact (h4 j kvs e).1
      | d x => cases z
      | pool => cases z
      | fn => cases z
    have old : ∀ {j}, OwnAt (Γ.set i (some (.d d))) j → j ≠ i ∧ OwnAt Γ j := fun {j} ⟨s, h, z⟩ => by
      rcases gs h with ⟨_, e, _⟩ | ⟨e, h⟩
      · subst e; cases z
      · exact ⟨e, s, h, z⟩
    refine ⟨ow, fun j h => ⟨⟨(h1 j (old h).2).1, fun e => inj j (old h).2 (old h).1 (by rw [st (old h).2, e])⟩, (h1 j (old h).2).2⟩, fun j l a b => h2 j l (old a).2 (old b).2, fun j xs h => ?_, fun j kvs h => ?_⟩
    · rcases gs h with ⟨_, e, _⟩ | ⟨e, h⟩
      · cases e
      · obtain ⟨q1, q2, vs, q3, q4⟩ := h3 j xs h
        exact ⟨q1, q2, vs, q3, q4.fut fu⟩
    · rcases gs h with ⟨_, e, _⟩ | ⟨e, h⟩
      · cases e
      · obtain ⟨q1, q2, q3, xs, q4, q5, q6⟩ := h4 j kvs h
        exact ⟨q1, q2, q3, xs, q4, q5, q6.fut fu⟩
  · exact R.pool.mono (W' := W.rel q') rfl rfl rfl rfl fu (fun a o _ e => e) fun a n e => e
/-- name = a display -/
theorem lS_own {i : Nat} (D : Ends) (σ : L2.St) (H : Hp) (q : lS G F (fun Γ S => (f Γ S).bind fun p => if i < Γ.length then (match p.1 with
    | .list xs => some (.nx (Γ.set i (some (.ownL xs))) p.2)
    | .dict kvs => some (.nx (Γ.set i (some (.ownD kvs))) p.2)
    | _ => none) else none) D σ H) : tAsg (lF G F f) (gName i) D σ H := by
  obtain ⟨W, Γ, S, o, hF, R, e, k⟩ := q
  obtain ⟨p, e1, e2⟩ := Option.bind_eq_some_iff.mp e
  split at e2
  · refine ⟨W, Γ, S, p.1, p.2, hF, R, e1, fun a H1 ob k1 R1 hn r => ?_⟩
    obtain ⟨R2, x2⟩ := R1.raw (i := i) (.inl hn) r
    split at e2
    · rename_i xs hx
      cases e2
      rw [hx] at R2
      exact k _ _ _ ((k1.ext R).trans x2) R2
    · rename_i xs hx
      cases e2
      rw [hx] at R2
      exact k _ _ _ ((k1.ext R).trans x2) R2
    · cases e2
  · cases e2
theorem own_ref {i : Nat} {d : PyData} (R : Rep G W H σ Γ S) (h : Γ[i]? = some (some (ownS d))) (hd : (∃ xs, d = .list xs) ∨ ∃ kvs, d = .dict kvs) : ∃ q, σ[i]? = some (some (.ref q)) ∧ OwnAt Γ i ∧ At G (W.rel q).M H (.ref q) d := by
  rcases hd with ⟨xs, rfl⟩ | ⟨kvs, rfl⟩
  · have ho : OwnAt Γ i := ⟨_, h, rfl⟩
    obtain ⟨q, hs, hM, nb, na, _, hl, _⟩ := R.own_at ho
    obtain ⟨z, vs, h1, h2⟩ := hl xs h
    exact ⟨q, hs, ho, .lst (fun z => z.2 rfl) h1 z (h2.fut (.less fun a h => h.1))⟩
  · have ho : OwnAt Γ i := ⟨_, h, rfl⟩
    obtain ⟨q, hs, hM, nb, na, _, _, hl⟩ := R.own_at ho
    obtain ⟨z, hm, xs, ⟨ep, h1⟩, nd, h2⟩ := hl kvs h
    exact ⟨q, hs, ho, .dic (fun z => z.2 rfl) hm h1 nd z (h2.fut (.less fun a h => h.1))⟩
theorem lS_reto {i : Nat} (D : Ends) (σ : L2.St) (H : Hp) (q : lS G F (fun Γ S => match Γ[i]? with
    | some (some (.ownL xs)) => some (.rt (.list xs) S)
    | some (some (.ownD xs)) => some (.rt (.dict xs) S)
    | _ => none) D σ H) : tRet (tVar i) D σ H := by
  obtain ⟨W, Γ, S, o, hF, R, e, k⟩ := q
  dsimp only at e
  have fin : ∀ d, Γ[i]? = some (some (ownS d)) → ((∃ xs, d = .list xs) ∨ ∃ kvs, d = .dict kvs) → EndO G W H D (.rt d S) → tRet (tVar i) D σ H := fun d h hd k => by
    obtain ⟨a, hs, ho, hat⟩ := own_ref R h hd
    obtain ⟨R2, x2⟩ := R.rel ho hs hat
    exact ⟨_, hs, k _ _ H x2 R2.tr R2.sub R2.pool hat⟩
  split at e
  · rename_i xs hx
    cases e
    exact fin (.list xs) hx (.inl ⟨_, rfl⟩) k
  · rename_i xs hx
    cases e
    exact fin (.dict xs) hx (.inr ⟨_, rfl⟩) k
  · cases e
theorem lS_foro {i : Nat} {tg : Tg} (D : Ends) (σ : L2.St) (H : Hp) (q : lS G F (fun Γ S => match Γ[i]? with
    | some (some (.ownL xs)) => forRun (fun x Γ S => (bindG tg x Γ S).bind fun q => sf q.1 q.2) xs (Γ.set i (some (.d (.list xs)))) S
    | _ => none) D σ H) : tFor (iList G.K (tVar i)) (lG G F tg) (lS G F sf) D σ H := by
  obtain ⟨W, Γ, S, o, hF, R, e, k⟩ := q
  dsimp only at e
  split at e
  · rename_i xs hx
    obtain ⟨a, hs, ho, hat⟩ := own_ref (d := .list xs) R hx (.inl ⟨_, rfl⟩)
    obtain ⟨R2, x2⟩ := R.rel ho hs hat
    obtain ⟨a', vs, ea, n, hh, t⟩ := hat.ls
    cases ea
    exact ⟨_, hs, a, rfl, ⟨vs, .of hh⟩, for_core (W := W.rel a) hF R2 (wk_list n hh t) e (k.ext x2)⟩
  · cases e
theorem lS_app {i : Nat} (D : Ends) (σ : L2.St) (H : Hp) (q : lS G F (fun Γ S => (f Γ S).bind fun p => match Γ[i]? with
    | some (some (.ownL xs)) => if xs.length < SL then some (.nx (Γ.set i (some (.ownL (xs ++ [p.1])))) p.2) else none
    | _ => none) D σ H) : tDrop (tBM G.K "list" rAppend (tVar i) (tCons (lE G F f) tNil)) D σ H := by
  obtain ⟨W, Γ, S, o, hF, R, e, k⟩ := q
  obtain ⟨p, e1, e2⟩ := Option.bind_eq_some_iff.mp e
  split at e2
  · rename_i xs hx
    split at e2
    · rename_i hz
      cases e2
      have ho : OwnAt Γ i := ⟨_, hx, rfl⟩
      obtain ⟨a, hs, hM, nb, na, inj, hl, _⟩ := R.own_at ho
      obtain ⟨_, vs0, h0, _⟩ := hl xs hx
      refine ⟨_, hs, .inl ⟨rfl, vs0, .of h0⟩, W, Γ, S, p.1, p.2, hF, R, e1, fun v H1 k1 R1 a1 => ?_⟩
      obtain ⟨a', hs', hM', nb', na', inj', hl', _⟩ := R1.own_at ho
      obtain rfl : a' = a := by rw [hs] at hs'; cases hs'; rfl
      obtain ⟨z, vs, h1, h2⟩ := hl' xs hx
      refine ⟨a', vs, v, rfl, rfl, h1, by rw [h2.length, sl_eq]; exact hz, ?_⟩
      obtain ⟨R2, x2⟩ := R1.raw (i := i) (ob := .lst (vs ++ [v])) (d := .list (xs ++ [p.1])) (.inr ⟨hM', nb', na', ⟨fun n e => (by rw [h1] at e; cases e), inj'⟩⟩) (.lst (h2.append (.cons a1 .nil)) (by rw [List.length_append]; exact hz))
      have es : σ.set i (some (.ref a')) = σ := List.ext_getElem? fun j => by
        by_cases e : i = j
        · subst e
          rw [hs', List.getElem?_set_self (by
            have := List.getElem?_eq_some_iff.mp hs'
            exact this.1)]
        · rw [List.getElem?_set_ne e]
      rw [es] at R2
      exact k _ _ _ ((k1.ext R).trans x2) R2
    · cases e2
  · cases e2
theorem lS_ext {i : Nat} {fs : Gm → Pl → Option (List PyData × Pl)} (D : Ends) (σ : L2.St) (H : Hp) (q : lS G F (fun Γ S => (fs Γ S).bind fun p => match Γ[i]? with
    | some (some (.ownL xs)) => if xs.length + p.1.length ≤ SL then some (.nx (Γ.set i (some (.ownL (xs ++ p.1)))) p.2) else none
    | _ => none) D σ H) : tDrop (tBM G.K "list" rExtend (tVar i) (tCons (tLst (lA G F fs)) tNil)) D σ H := by
  obtain ⟨W, Γ, S, o, hF, R, e, k⟩ := q
  obtain ⟨p, e1, e2⟩ := Option.bind_eq_some_iff.mp e
  split at e2
  · rename_i xs hx
    split at e2
    · rename_i hz
      cases e2
      have ho : OwnAt Γ i := ⟨_, hx, rfl⟩
      obtain ⟨a, hs, hM, nb, na, inj, hl, _⟩ := R.own_at ho
      obtain ⟨_, vs0, h0, _⟩ := hl xs hx
      refine ⟨_, hs, .inl ⟨rfl, vs0, .of h0⟩, W, Γ, S, p.1, p.2, hF, R, e1, fun us H1 k1 R1 a1 => ⟨by rw [a1.length, sl_eq]; omega, fun b hb => ?_⟩⟩
      have s1 : Same H1 (upd H1 b (.lst us)) := same_upd hb
      have R1' := R1.same s1
      have k1' : Keep W H (upd H1 b (.lst us)) := k1.trans (.same s1)
      have a1' : AtL G W.M (upd H1 b (.lst us)) us p.1 := a1.fut (.same s1)
      obtain ⟨a', hs', hM', nb', na', inj', hl', _⟩ := R1'.own_at ho
      obtain rfl : a' = a := by rw [hs] at hs'; cases hs'; rfl
      obtain ⟨z, vs, h1, h2⟩ := hl' xs hx
      refine ⟨a', b, vs, us, rfl, rfl, h1, upd_same, by rw [h2.length, a1.length, sl_eq]; exact hz, ?_⟩
      obtain ⟨R2, x2⟩ := R1'.raw (i := i) (ob := .lst (vs ++ us)) (d := .list (xs ++ p.1)) (.inr ⟨hM', nb', na', ⟨fun n e => (by rw [h1] at e; cases e), inj'⟩⟩) (.lst (h2.append a1') (by rw [List.length_append]; exact hz))
      have es : σ.set i (some (.ref a')) = σ := List.ext_getElem? fun j => by
        by_cases e : i = j
        · subst e
          rw [hs', List.getElem?_set_self (by
            have := List.getElem?_eq_some_iff.mp hs'
            exact this.1)]
        · rw [List.getElem?_set_ne e]
      rw [es] at R2
      exact k _ _ _ ((k1'.ext R).trans x2) R2
    · cases e2
  · cases e2
end
end K26
namespace K26
open PySem PySem.Spec PyProof.Rows L2 PySem.W PySem.SeqAt

def rPutD (G : Gl0) : TSet := fun o y v H Q => ∃ a xs ep M kvs ks k, o = .ref a ∧ H a = some (dicO G.P G.w a xs ep) ∧ (xs.map (·.1)).Nodup ∧ AtD G M H xs kvs ∧ xs.length ≤ sizeLine ∧ keyOf (.tuple ks) = some k ∧ k.depth ≤ 8 ∧ At G M H y (.tuple ks) ∧
  ((∀ n, H a ≠ some (LamX.CodeO a n)) → ∀ b u ep', y = .ref b → RelV v u → Q (upd H a (dicO G.P G.w a (storedH xs k b u) ep')))
section
variable {X : Cx} {F : Fx} {G : Gl0} {W W1 : Wx} {H H1 : Hp} {σ : L2.St} {Γ : Gm} {S : Pl} {D : Ends} {o : Out} {f g : Gm → Pl → Re}
theorem set_dicO (room : X.A.units + 200 < cLine) : PSet X (rPutD (gl X)) := by
  intro pins s σ H o y v ov iv u Q I ro ry rv ⟨a, xs, ep, M, kvs, ks, k, eo, h, nd, t, z, hk, d8, hy, q⟩
  subst eo
  obtain rfl : ov = .ref a := ro
  obtain ⟨b, ev, ex, hkey⟩ := nkey I hk hy d8 ry
  subst ev
  have dd := dic_at I ⟨ep, h⟩ nd t
  refine wpAny_setItem_heap (knd := nestedKind X.prog X.w) (by show X.A.units + 1 + 8 < _; omega) hkey dd (fun h' dh sb => ?_) z
  obtain ⟨ep', hob⟩ := dic_new dh
  exact ⟨_, d_write I (by rw [h]; exact True.intro) sb (by obtain ⟨o, _, _, ho, _⟩ := dh; exact ⟨o, ho⟩) (hob _), q (no_code I.hok h) b u ep' ex rv⟩
theorem set_self {i : Nat} {v : V} (h : σ[i]? = some (some v)) : σ.set i (some v) = σ := List.ext_getElem? fun j => by
  by_cases e : i = j
  · subst e
    rw [h, List.getElem?_set_self (List.getElem?_eq_some_iff.mp h).1]
  · rw [List.getElem?_set_ne e]
theorem lS_put {i : Nat} (D : Ends) (σ : L2.St) (H : Hp) (q : lS G F (fun Γ S => (g Γ S).bind fun p => (f Γ p.2).bind fun q => match Γ[i]?, q.1 with
    | some (some (.ownD kvs)), .tuple ks => (keyOf (.tuple ks)).bind fun y => if y.depth ≤ 8 ∧ kvs.length < SL then some (.nx (Γ.set i (some (.ownD (storeD kvs y p.1)))) q.2) else none
    | _, _ => none) D σ H) : tAsg (lE G F g) (gSub (tVar i) (lE G F f) (rPutD G)) D σ H := by
  obtain ⟨W, Γ, S, o, hF, R, e, k⟩ := q
  obtain ⟨p, e1, e2⟩ := Option.bind_eq_some_iff.mp e
  obtain ⟨r, e3, e4⟩ := Option.bind_eq_some_iff.mp e2
  split at e4
  · rename_i kvs ks hx hr
    obtain ⟨y, e5, e6⟩ := Option.bind_eq_some_iff.mp e4
    split at e6
    · rename_i hz
      cases e6
      have ho : OwnAt Γ i := ⟨_, hx, rfl⟩
      obtain ⟨a, hs, hM, nb, na, inj, _, hl⟩ := R.own_at ho
      refine ⟨W, Γ, S, p.1, p.2, hF, R, e1, fun v H1 k1 R1 a1 => ⟨_, hs, W, Γ, p.2, r.1, r.2, hF, R1, e3, fun u H2 k2 R2 a2 => ?_⟩⟩
      obtain ⟨a', hs', hM', nb', na', inj', _, hl'⟩ := R2.own_at ho
      obtain rfl : a' = a := by rw [hs] at hs'; cases hs'; rfl
      obtain ⟨z, hm, xs, ⟨ep, h1⟩, nd, h2⟩ := hl' kvs hx
      rw [hr] at a2
      refine ⟨a', xs, ep, W.M, kvs, ks, y, rfl, h1, nd, h2, by rw [h2.length]; exact z, e5, hz.1, a2, fun nco b w ep' hb rw' => ?_⟩
      have st : AtD G W.M H2 (storedH xs y b w) (storeD kvs y p.1) := h2.stored nd (by rw [keyOf_data _ _ e5, ← hb]; exact a2) hz.1 rw' (a1.fut (k2.fut R1))
      have hlen : (storeD kvs y p.1).length ≤ SL := by
        rw [← st.length]
        have h3 := storedH_length xs y b w
        have h4 := h2.length
        have h5 : kvs.length < SL := hz.2
        omega
      obtain ⟨R3, x3⟩ := R2.raw (i := i) (d := .dict (storeD kvs y p.1)) (.inr ⟨hM', nb', na', nco, inj'⟩) (.dic (ep := ep') hm (storedH_nodup nd y b w) hlen st)
      rw [set_self hs'] at R3
      exact k _ _ _ (((k1.trans k2).ext R).trans x3) R3
    · cases e6
  · cases e4
theorem lS_par2 {i j : Nat} {fs : Gm → Pl → Option (List PyData × Pl)} (D : Ends) (σ : L2.St) (H : Hp) (q : lS G F (fun Γ S => (fs Γ S).bind fun p => (setN Γ [i, j] p.1).map fun Γ' => .nx Γ' p.2) D σ H) : tPar i j (lA G F fs) D σ H := by
  obtain ⟨W, Γ, S, o, hF, R, e, k⟩ := q
  obtain ⟨p, e1, e2⟩ := Option.bind_eq_some_iff.mp e
  obtain ⟨Γ', e3, e2⟩ := Option.map_eq_some_iff.mp e2
  cases e2
  obtain ⟨ds, S1⟩ := p
  refine ⟨W, Γ, S, ds, S1, hF, R, e1, fun vs H1 k1 R1 a1 => ?_⟩
  match ds, vs, a1, e3 with
  | [], _, _, e3 => exact absurd e3 (by intro z; cases z)
  | [d1], v :: vs, .cons a b, e3 =>
    have e3 : (if i < Γ.length then setN (Γ.set i (some (.d d1))) [j] [] else none) = some Γ' := e3
    split at e3 <;> cases e3
  | [d1, d2], [v1, v2], .cons a (.cons b .nil), e3 =>
    have e3 : (if i < Γ.length then (if j < (Γ.set i (some (.d d1))).length then some ((Γ.set i (some (.d d1))).set j (some (.d d2))) else none) else none) = some Γ' := e3
    split at e3
    · split at e3
      · cases e3
        exact ⟨v1, v2, rfl, k W _ H1 (k1.ext R) ((R1.set a).set b)⟩
      · cases e3
    · cases e3
  | d1 :: d2 :: d3 :: ds, _, _, e3 =>
    have e3 : (if i < Γ.length then (if j < (Γ.set i (some (.d d1))).length then (none : Option Gm) else none) else none) = some Γ' := e3
    split at e3
    · split at e3 <;> cases e3
    · cases e3
theorem lS_par3 {i j l : Nat} {fs : Gm → Pl → Option (List PyData × Pl)} (D : Ends) (σ : L2.St) (H : Hp) (q : lS G F (fun Γ S => (fs Γ S).bind fun p => (setN Γ [i, j, l] p.1).map fun Γ' => .nx Γ' p.2) D σ H) : tPar3 i j l (lA G F fs) D σ H := by
  obtain ⟨W, Γ, S, o, hF, R, e, k⟩ := q
  obtain ⟨p, e1, e2⟩ := Option.bind_eq_some_iff.mp e
  obtain ⟨Γ', e3, e2⟩ := Option.map_eq_some_iff.mp e2
  cases e2
  obtain ⟨ds, S1⟩ := p
  refine ⟨W, Γ, S, ds, S1, hF, R, e1, fun vs H1 k1 R1 a1 => ?_⟩
  match ds, vs, a1, e3 with
  | [], _, _, e3 => exact absurd e3 (by intro z; cases z)
  | [d1], v :: vs, .cons a b, e3 =>
    have e3 : (if i < Γ.length then setN (Γ.set i (some (.d d1))) [j, l] [] else none) = some Γ' := e3
    split at e3 <;> cases e3
  | [d1, d2], _, _, e3 =>
    have e3 : (if i < Γ.length then (if j < (Γ.set i (some (.d d1))).length then (none : Option Gm) else none) else none) = some Γ' := e3
    split at e3
    · split at e3 <;> cases e3
    · cases e3
  | [d1, d2, d3], [v1, v2, v3], .cons a (.cons b (.cons c .nil)), e3 =>
    have e3 : (if i < Γ.length then (if j < (Γ.set i (some (.d d1))).length then (if l < ((Γ.set i (some (.d d1))).set j (some (.d d2))).length then some (((Γ.set i (some (.d d1))).set j (some (.d d2))).set l (some (.d d3))) else none) else none) else none) = some Γ' := e3
    split at e3
    · split at e3
      · split at e3
        · cases e3
          exact ⟨v1, v2, v3, rfl, k W _ H1 (k1.ext R) (((R1.set a).set b).set c)⟩
        · cases e3
      · cases e3
    · cases e3
  | d1 :: d2 :: d3 :: d4 :: ds, _, _, e3 =>
    have e3 : (if i < Γ.length then (if j < (Γ.set i (some (.d d1))).length then (if l < ((Γ.set i (some (.d d1))).set j (some (.d d2))).length then (none : Option Gm) else none) else none) else none) = some Γ' := e3
    split at e3
    · split at e3
      · split at e3 <;> cases e3
      · cases e3
    · cases e3
/-! ### stores that the compiler swaps -/
theorem blockKind_fn {env : Env} (hk : env.scope.kind = .function) : env.blockKind = .function := by unfold Env.blockKind; rw [hk]; rfl
theorem swapped2 {x y : Str} {px py pt pt2 : Pos} {kt k2 : Nat} {a b : Expr} {env : Env} (hk : env.scope.kind = .function) (hx : env.scope.names.lookup x = some .local) (hy : env.scope.names.lookup y = some .local) (hl : (py.line == px.line) = true) (hn : x ≠ y)
    (ha : plainE a = true) (hb : plainE b = true) (h1 : ([a, b].all (foldedForSure 8)) = false) (h2 : ([a, b].all (constantsAlone 8)) = false) :
    swappedStores [.Tuple [.Name x px, .Name y py] kt pt] (.Tuple [a, b] k2 pt2) env = pure (some [x, y]) := by
  have kx : env.kindOf x = some .local := hx
  have ky : env.kindOf y = some .local := hy
  have hb' := blockKind_fn hk
  have f1 : ∀ e : Expr, plainE e = true → (match e with | .Starred .. => true | _ => false) = false := fun e h => by cases e <;> first | rfl | cases h
  have hs : ([a, b].any fun | .Starred .. => true | _ => false) = false := by
    simp only [List.any_cons, List.any_nil, Bool.or_false]
    have q1 := f1 a ha
    have q2 := f1 b hb
    simp only [Bool.or_eq_false_iff]
    exact ⟨q1, q2⟩
  have hnd : [x, y].eraseDups.length = 2 := by
    have : (x == y) = false := beq_eq_false_iff_ne.mpr hn
    simp [List.eraseDups_cons, this, hn, Ne.symm hn]
  unfold swappedStores
  dsimp only
  refine Eq.trans (if_neg ?_) (Eq.trans (if_neg fun z => Bool.noConfusion (hs.symm.trans z)) (Eq.trans (if_neg ?_) (Eq.trans (if_neg ?_) (Eq.trans (if_neg ?_) ?_))))
  · simp [hb']
  · have hl' : py.line = px.line := by simpa using hl
    simpa [List.filterMap_cons, kx, ky, hl', Expr.pos] using hnd
  · rw [h1]; decide
  · rw [h2]; decide
  · have hl' : py.line = px.line := by simpa using hl
    simp [List.filterMap_cons, kx, ky, hl', Expr.pos]
theorem swapped3 {x y z : Str} {px py pz pt pt2 : Pos} {kt k2 : Nat} {a b c : Expr} {env : Env} (hk : env.scope.kind = .function) (hx : env.scope.names.lookup x = some .local) (hy : env.scope.names.lookup y = some .local) (hz : env.scope.names.lookup z = some .local)
    (hl : (py.line == px.line) = true) (hl2 : (pz.line == px.line) = true) (hn : x ≠ y) (hn2 : x ≠ z) (hn3 : y ≠ z)
    (ha : plainE a = true) (hb : plainE b = true) (hc : plainE c = true) (h1 : ([a, b, c].all (foldedForSure 8)) = false) (h2 : ([a, b, c].all (constantsAlone 8)) = false) :
    swappedStores [.Tuple [.Name x px, .Name y py, .Name z pz] kt pt] (.Tuple [a, b, c] k2 pt2) env = pure (some [x, y, z]) := by
  have kx : env.kindOf x = some .local := hx
  have ky : env.kindOf y = some .local := hy
  have kz : env.kindOf z = some .local := hz
  have hb' := blockKind_fn hk
  have f1 : ∀ e : Expr, plainE e = true → (match e with | .Starred .. => true | _ => false) = false := fun e h => by cases e <;> first | rfl | cases h
  have hs : ([a, b, c].any fun | .Starred .. => true | _ => false) = false := by
    simp only [List.any_cons, List.any_nil, Bool.or_false]
    have q1 := f1 a ha
    have q2 := f1 b hb
    have q3 := f1 c hc
    simp only [Bool.or_eq_false_iff]
    exact ⟨q1, q2, q3⟩
  have hnd : [x, y, z].eraseDups.length = 3 := by
    simp [List.eraseDups_cons, hn, Ne.symm hn, hn2, Ne.symm hn2, hn3, Ne.symm hn3]
  unfold swappedStores
  dsimp only
  refine Eq.trans (if_neg ?_) (Eq.trans (if_neg fun z => Bool.noConfusion (hs.symm.trans z)) (Eq.trans (if_neg ?_) (Eq.trans (if_neg ?_) (Eq.trans (if_neg ?_) ?_))))
  · simp [hb']
  · have hl' : py.line = px.line := by simpa using hl
    have hl2' : pz.line = px.line := by simpa using hl2
    simpa [List.filterMap_cons, kx, ky, kz, hl', hl2', Expr.pos] using hnd
  · rw [h1]; decide
  · rw [h2]; decide
  · have hl' : py.line = px.line := by simpa using hl
    have hl2' : pz.line = px.line := by simpa using hl2
    simp [List.filterMap_cons, kx, ky, kz, hl', hl2', Expr.pos]
/-- whether a comprehension's value is stored as it is made -/
def swB (sc : Scope) (e : Expr) (t : Str) (py : Pos) : Bool := match vLc e with
  | some (_, _, s, p) => decide (sc.names.lookup t = some .local) && (py.line == p.line) && !(s.names.any fun (n, k) => n == t && (k == .local || k == .cell))
  | none => false
theorem swaps_eq {e : Expr} {t : Str} {py : Pos} {l : Nat} {env : Env} (hp : plainE e = true) (hk : env.scope.kind = .function) : swapsWith e (some (.Name t py)) l env = pure (swB env.scope e t py) := by
  cases e <;> first
    | rfl
    | (cases hp; done)
    | (rename_i a b s p
       have hb' := blockKind_fn hk
       unfold swapsWith swB vLc
       dsimp only
       rw [hb']
       have : (env.kindOf t == some NameKind.local) = decide (env.scope.names.lookup t = some .local) := by
         show (env.scope.names.lookup t == some NameKind.local) = _
         by_cases h : env.scope.names.lookup t = some .local
         · simp [h]
         · simp [h]
       rw [this]
       rfl)
theorem swaps_other {e tg : Expr} {l : Nat} {env : Env} (hp : plainE e = true) (ht : vName tg = none) : swapsWithSole [tg] e l env = pure false := by
  show swapsWith e (some tg) l env = pure false
  cases e <;> first
    | rfl
    | (cases hp; done)
    | (cases tg <;> first | rfl | cases ht)
end
end K26
namespace K26
open PySem PySem.Spec PyProof.Rows L2 PySem.W PySem.SeqAt

/-! ### looking at statements -/
def vAsg : Stmt → Option (Expr × Expr × Pos)
  | .Assign [t] v p => some (t, v, p)
  | _ => none
def vAug : Stmt → Option (Expr × Operator × Expr)
  | .AugAssign t o v _ => some (t, o, v)
  | _ => none
def vExp : Stmt → Option Expr
  | .Expr e _ => some e
  | _ => none
def vRet : Stmt → Option Expr
  | .Return (some e) _ => some e
  | _ => none
def vIfS : Stmt → Option (Expr × List Stmt × List Stmt)
  | .If c a b _ => some (c, a, b)
  | _ => none
def vFor : Stmt → Option (Expr × Expr × List Stmt)
  | .For t i b [] _ => some (t, i, b)
  | _ => none
def vWh : Stmt → Option (Expr × List Stmt)
  | .While c b [] _ => some (c, b)
  | _ => none
def vBrk : Stmt → Bool
  | .Break _ => true
  | _ => false
section
variable {s : Stmt}
theorem vAsg_of {t v : Expr} {p : Pos} (h : vAsg s = some (t, v, p)) : s = .Assign [t] v p := by
  unfold vAsg at h
  split at h
  · simp only [Option.some.injEq, Prod.mk.injEq] at h
    obtain ⟨rfl, rfl, rfl⟩ := h
    rfl
  · cases h
theorem vAug_of {t v : Expr} {o : Operator} (h : vAug s = some (t, o, v)) : ∃ p, s = .AugAssign t o v p := by cases s <;> simp [vAug] at h; obtain ⟨rfl, rfl, rfl⟩ := h; exact ⟨_, rfl⟩
theorem vExp_of {e : Expr} (h : vExp s = some e) : ∃ p, s = .Expr e p := by cases s <;> simp [vExp] at h; subst h; exact ⟨_, rfl⟩
theorem vRet_of {e : Expr} (h : vRet s = some e) : ∃ p, s = .Return (some e) p := by
  unfold vRet at h
  split at h
  · simp only [Option.some.injEq] at h
    subst h
    exact ⟨_, rfl⟩
  · cases h
theorem vIfS_of {c : Expr} {a b : List Stmt} (h : vIfS s = some (c, a, b)) : ∃ p, s = .If c a b p := by cases s <;> simp [vIfS] at h; obtain ⟨rfl, rfl, rfl⟩ := h; exact ⟨_, rfl⟩
theorem vFor_of {t i : Expr} {b : List Stmt} (h : vFor s = some (t, i, b)) : ∃ p, s = .For t i b [] p := by
  unfold vFor at h
  split at h
  · simp only [Option.some.injEq, Prod.mk.injEq] at h
    obtain ⟨rfl, rfl, rfl⟩ := h
    exact ⟨_, rfl⟩
  · cases h
theorem vWh_of {c : Expr} {b : List Stmt} (h : vWh s = some (c, b)) : ∃ p, s = .While c b [] p := by
  unfold vWh at h
  split at h
  · simp only [Option.some.injEq, Prod.mk.injEq] at h
    obtain ⟨rfl, rfl⟩ := h
    exact ⟨_, rfl⟩
  · cases h
theorem vBrk_of (h : vBrk s = true) : ∃ p, s = .Break p := by cases s <;> simp [vBrk] at h; exact ⟨_, rfl⟩
end
def isLc : Tm → Bool
  | .lc .. => true
  | .lc2 .. => true
  | _ => false
def isDisp : Tm → Bool
  | .lst _ => true
  | .dic0 => true
  | .dic1 .. => true
  | _ => false
def isTp : Tg → Bool
  | .tp _ => true
  | _ => false
def isSb : Tg → Bool
  | .sb .. => true
  | _ => false
def Ck.fnk (k : Ck) : Bool := decide (k.sc.kind = .function)
def parB (k : Ck) (is : List Nat) (ts vs : List Expr) : Bool := match is, ts, vs with
  | [i, j], [a, b], [_, _] => (match vName a, vName b with
    | some (n, p), some (m, q) => k.lcl i n && k.lcl j m && (q.line == p.line) && decide (i ≠ j) && decide (n ≠ m)
    | _, _ => false)
  | [i, j, l], [a, b, c], [_, _, _] => (match vName a, vName b, vName c with
    | some (n, p), some (m, q), some (o, r) => k.lcl i n && k.lcl j m && k.lcl l o && (q.line == p.line) && (r.line == p.line) && decide (i ≠ j) && decide (i ≠ l) && decide (j ≠ l) && decide (n ≠ m) && decide (n ≠ o) && decide (m ≠ o)
    | _, _, _ => false)
  | _, _, _ => false
/-- a tuple to a tuple, stored from the left -/
def swN (sc : Scope) (t v : Expr) : Bool := match vTup t, vTup v with
  | some ts, some vs => vs.all (foldedForSure 8) || ts.any fun t => match vName t with
    | some (x, _) => !decide (sc.names.lookup x = some .local)
    | none => true
  | _, none => true
  | _, _ => false
theorem swapped_none {t v : Expr} {env : Env} (h : swN env.scope t v = true) (ht : (vTup t).isSome = true) : swappedStores [t] v env = pure none := by
  obtain ⟨ts, e⟩ := Option.isSome_iff_exists.mp ht
  obtain ⟨kt, pt, rfl⟩ := vTup_of e
  unfold swN at h
  split at h
  · rename_i ts' vs h1 h2
    rw [e] at h1
    cases h1
    obtain ⟨kv, pv, rfl⟩ := vTup_of h2
    unfold swappedStores
    dsimp only
    split
    · rfl
    · rename_i c1
      split
      · rfl
      · split
        · rfl
        · rename_i c2
          split
          · rfl
          · rename_i c3
            exfalso
            rw [Bool.or_eq_true] at h
            rcases h with h | h
            · exact c3 h
            · apply c2
              obtain ⟨a, ha, hf⟩ := List.any_eq_true.mp h
              have lt : ∀ f : Expr → Option Str, f a = none → ((ts.filterMap f).length != ts.length) = true := fun f hf => by
                have : (ts.filterMap f).length < ts.length := List.length_filterMap_lt_length_iff_exists.mpr ⟨a, ha, hf⟩
                simp only [bne_iff_ne, ne_eq]
                omega
              rw [Bool.or_eq_true]
              refine .inl (lt _ ?_)
              cases a with
              | Name x p =>
                have hf : (!decide (env.scope.names.lookup x = some .local)) = true := hf
                have hn : ¬ env.scope.names.lookup x = some .local := by simpa using hf
                have hb : (env.kindOf x == some NameKind.local) = false := by
                  show (env.scope.names.lookup x == some NameKind.local) = false
                  simpa using hn
                show (if (env.kindOf x == some NameKind.local && _) = true then some x else none) = none
                rw [hb]
                rfl
              | _ => rfl
  · rename_i x h1
    cases v <;> first | rfl | cases h1
  · cases h
mutual
def chkS : Sm → Ck → Stmt → Bool
  | .set i e => fun k s => match vAsg s with
    | some (t, v, _) => (match vName t with
      | some (x, p) => k.fnk && k.loc i x && chkE e k v && plainE v && !(swB k.sc v x p)
      | none => false)
    | none => false
  | .setLc i e => fun k s => match vAsg s with
    | some (t, v, _) => (match vName t with
      | some (x, p) => k.fnk && isLc e && k.lcl i x && chkE e k v && plainE v && swB k.sc v x p
      | none => false)
    | none => false
  | .own i e => fun k s => match vAsg s with
    | some (t, v, _) => (match vName t with
      | some (x, p) => k.fnk && isDisp e && k.loc i x && chkE e k v && plainE v && !(swB k.sc v x p)
      | none => false)
    | none => false
  | .par is as => fun k s => match vAsg s with
    | some (t, v, _) => (match vTup t, vTup v with
      | some ts, some vs => k.fnk && parB k is ts vs && chks as k vs && !(vs.all (foldedForSure 8)) && !(vs.all (constantsAlone 8))
      | _, _ => false)
    | none => false
  | .asg tg e => fun k s => match vAsg s with
    | some (t, v, _) => chkG tg k t && chkE e k v && plainE v && plainE t && (isSb tg || (isTp tg && swN k.sc t v))
    | none => false
  | .aug i e => fun k s => match vAug s with
    | some (t, op, v) => (match vName t with
      | some (x, _) => decide (op = .Add) && k.loc i x && chkE e k v
      | none => false)
    | none => false
  | .put i a b => fun k s => match vAsg s with
    | some (t, v, _) => (match vSub t with
      | some (x, y) => k.varE i x && chkE a k y && chkE b k v && plainE v && plainE y
      | none => false)
    | none => false
  | .app i e => fun k s => match vExp s with
    | some c => (match vCA c with
      | some (o, m, p, [y], q) => decide (m = "append") && k.varE i o && chkE e k y && plainE y && (p.endLine == q.line)
      | _ => false)
    | none => false
  | .ext i as => fun k s => match vExp s with
    | some c => (match vCA c with
      | some (o, m, p, [y], q) => decide (m = "extend") && k.varE i o && (p.endLine == q.line) && (match vLst y with
        | some es => chks as k es
        | none => false)
      | _ => false)
    | none => false
  | .ret e => fun k s => match vRet s with
    | some v => chkE e k v
    | none => false
  | .reto i => fun k s => match vRet s with
    | some v => k.varE i v
    | none => false
  | .ife c a b => fun k s => match vIfS s with
    | some (t, x, y) => chkE c k t && chkSs a k x && chkSs b k y
    | none => false
  | .for_ tg it b => fun k s => match vFor s with
    | some (t, y, bd) => chkG tg k t && chkI it k t y && plainE y && chkSs b k bd
    | none => false
  | .foro tg i b => fun k s => match vFor s with
    | some (t, y, bd) => chkG tg k t && k.varE i y && chkSs b k bd
    | none => false
  | .whl _ c b => fun k s => match vWh s with
    | some (t, bd) => chkE c k t && chkSs b k bd
    | none => false
  | .brk => fun _ s => vBrk s
def chkSs : Ss → Ck → List Stmt → Bool
  | .nil => fun _ ss => match ss with
    | [] => true
    | _ => false
  | .cons s r => fun k ss => match ss with
    | st :: rest => chkS s k st && chkSs r k rest
    | [] => false
end
end K26
namespace K26
open PySem PySem.Spec PyProof.Rows L2 PySem.W PySem.SeqAt

/-- what a statement's text says, in any context -/
def SS (s : Sm) : Prop := ∀ (X : Cx) (k : Ck) (c : Cf) (F : Fx) (lev : Nat), Okx X k c F lev → ∀ st : Stmt, chkS s k st = true → PS X st (lS (gl X) F (evS c s))
def SSs (s : Ss) : Prop := ∀ (X : Cx) (k : Ck) (c : Cf) (F : Fx) (lev : Nat), Okx X k c F lev → ∀ st : List Stmt, chkSs s k st = true → PSs X st (lS (gl X) F (evSs c s))
section
variable {X : Cx} {k : Ck} {c : Cf} {F : Fx} {lev : Nat}
theorem Ok0.fnk (o : Ok0 X k c F lev) (h : k.fnk = true) : X.env.scope.kind = .function := by rw [o.sc]; exact of_decide_eq_true h
theorem Ok0.lcl (o : Ok0 X k c F lev) {i : Nat} {x : Str} (h : k.lcl i x = true) : X.N[i]? = some x ∧ X.env.scope.names.lookup x = some .local := by
  simp only [Ck.lcl, Bool.and_eq_true, decide_eq_true_eq] at h
  exact ⟨by rw [o.N]; exact h.1, (o.kindE x).trans h.2⟩
/-- a display that comes new -/
theorem sndFr (o : Okx X k c F lev) (t : Tm) (e : Expr) (hd : isDisp t = true) (h : chkE t k e = true) : PE X e (lF (gl X) F (evE c t)) := by
  cases t with
  | lst as =>
    unfold chkE at h
    split at h
    · rename_i es hv
      obtain ⟨p, rfl⟩ := vLst_of hv
      exact peW (pe_lst (snds as (sAll as) X k c F lev o es h)) lF_lst
    · cases h
  | dic0 =>
    unfold chkE at h
    split at h
    · rename_i hv
      obtain ⟨p, rfl⟩ := vDic_of hv
      exact peW d0_pe lF_d0
    · cases h
  | dic1 a b =>
    unfold chkE at h
    split at h
    · rename_i x y hv
      obtain ⟨p, rfl⟩ := vDic_of hv
      simp only [Bool.and_eq_true] at h
      exact peW (d1_pe o.toOk0.bx (sE a X k c F lev o x h.1).1 (sE b X k c F lev o y h.2).1) lF_d1
    · cases h
  | _ => cases hd
end
theorem sS_set (i : Nat) (e : Tm) : SS (.set i e) := fun X k c F lev o st h => by
  unfold chkS at h
  split at h
  · rename_i t v p hv
    obtain rfl := vAsg_of hv
    split at h
    · rename_i x px hn
      obtain rfl := vName_of hn
      simp only [Bool.and_eq_true, Bool.not_eq_true'] at h
      obtain ⟨⟨⟨⟨h1, h2⟩, h3⟩, h4⟩, h5⟩ := h
      obtain ⟨q1, q2, q3⟩ := loc_of o.toOk0 h2
      exact psW (ps_set o.nd q1 q2 (sE e X k c F lev o v h3).1 (by rw [swaps_eq h4 (o.toOk0.fnk h1), o.sc, h5]) q3) lS_set
    · cases h
  · cases h
theorem sS_own (i : Nat) (e : Tm) : SS (.own i e) := fun X k c F lev o st h => by
  unfold chkS at h
  split at h
  · rename_i t v p hv
    obtain rfl := vAsg_of hv
    split at h
    · rename_i x px hn
      obtain rfl := vName_of hn
      simp only [Bool.and_eq_true, Bool.not_eq_true'] at h
      obtain ⟨⟨⟨⟨⟨h1, h6⟩, h2⟩, h3⟩, h4⟩, h5⟩ := h
      obtain ⟨q1, q2, q3⟩ := loc_of o.toOk0 h2
      exact psW (ps_set o.nd q1 q2 (sndFr o e v h6 h3) (by rw [swaps_eq h4 (o.toOk0.fnk h1), o.sc, h5]) q3) lS_own
    · cases h
  · cases h
theorem sS_setLc (i : Nat) (e : Tm) : SS (.setLc i e) := fun X k c F lev o st h => by
  unfold chkS at h
  split at h
  · rename_i t v p hv
    obtain rfl := vAsg_of hv
    split at h
    · rename_i x0 px hn
      obtain rfl := vName_of hn
      simp only [Bool.and_eq_true, Bool.not_eq_true'] at h
      obtain ⟨⟨⟨⟨⟨h1, hlc⟩, hl⟩, h⟩, hpl⟩, hsw⟩ := h
      obtain ⟨q1, q2⟩ := o.toOk0.lcl hl
      have sw : swapsWith v (some (.Name x0 px)) p.line X.env = pure true := by rw [swaps_eq hpl (o.toOk0.fnk h1), o.sc, hsw]
      cases e with
      | lc elt tg it ifs own =>
        unfold chkE at h
        split at h
        · rename_i x t y fs n sc p hv
          obtain rfl := vLc_of hv
          simp only [Bool.and_eq_true, decide_eq_true_eq] at h
          obtain ⟨⟨⟨⟨⟨⟨⟨rfl, h2⟩, h3⟩, h4⟩, h5⟩, h6⟩, h7⟩, h8⟩ := h
          have ob := fun (s : Shared) (H : Hp) (C : Addr) (cl : List (Str × Addr)) (fp : List Addr) => o.toOk0.blk sc s H C cl fp
          have hs : ∀ i ∈ slotsG tg, i ∈ own := fun i hi => by
            have := List.all_eq_true.mp h4 i hi
            simpa using this
          refine psW (ps_setLc (g := lG (gl X) F tg) (tt := lT (gl X) F (evC c ifs)) (te := lE (gl X) F (evE c elt)) o.calm o.nd q1 q2 sw (sIm it X k c F lev o t y h5) (blk_ok o.toOk0 h2) (fun s H C cl fp => sndG (ob s H C cl fp) tg t h3)
            (fun s H C cl fp => sndF ifs (sOs ifs) _ _ c F lev ((ob s H C cl fp).okx rfl) fs h7) (fun s H C cl fp => (sE elt _ _ c F lev ((ob s H C cl fp).okx rfl) x h8).1) (no_set h6 X.env)) fun D σ H z => ?_
          rw [ownP_snd]
          exact lE_lc hs σ H _ (lS_set D σ H z)
        · cases h
      | lc2 elt tg it ifs tg1 it1 ifs1 own own1 =>
        unfold chkE at h
        split at h
        · rename_i x t y fs n t1 y1 fs1 n1 sc p hv
          obtain rfl := vLc_of hv
          simp only [Bool.and_eq_true, decide_eq_true_eq] at h
          obtain ⟨⟨⟨⟨⟨⟨⟨⟨⟨⟨⟨⟨⟨⟨rfl, rfl⟩, h2⟩, h3⟩, h4⟩, h5⟩, h6⟩, h7⟩, g1⟩, g2⟩, g3⟩, g4⟩, g5⟩, g6⟩, h8⟩ := h
          have ob := fun (s : Shared) (H : Hp) (C : Addr) (cl : List (Str × Addr)) (fp : List Addr) => o.toOk0.blk sc s H C cl fp
          have hs : ∀ i ∈ slotsG tg, i ∈ own := fun i hi => by
            have := List.all_eq_true.mp h4 i hi
            simpa using this
          have hs1 : ∀ i ∈ slotsG tg1, i ∈ own1 := fun i hi => by
            have := List.all_eq_true.mp g3 i hi
            simpa using this
          have hv : ∀ i ∈ own1, i ∈ (ownP k.N own).map (·.2) := fun i hi => by
            have := List.all_eq_true.mp g1 i hi
            rw [ownP_snd]
            simpa using this
          refine psW (ps_setLc2 (g := lG (gl X) F tg) (tt := lT (gl X) F (evC c ifs)) (wi1 := lI (gl X) F (evI c it1)) (g1 := lG (gl X) F tg1) (tt1 := lT (gl X) F (evC c ifs1)) (te := lE (gl X) F (evE c elt)) o.calm o.nd q1 q2 sw (sIm it X k c F lev o t y h5) (blk_ok o.toOk0 h2) hv
            (fun s H C cl fp => sndG (ob s H C cl fp) tg t h3) (fun s H C cl fp => sndF ifs (sOs ifs) _ _ c F lev ((ob s H C cl fp).okx rfl) fs h7)
            (fun s H C cl fp => sIm it1 _ _ c F lev ((ob s H C cl fp).okx rfl) t1 y1 g4) (fun s H C cl fp => sndG (ob s H C cl fp) tg1 t1 g2) (fun s H C cl fp => sndF ifs1 (sOs ifs1) _ _ c F lev ((ob s H C cl fp).okx rfl) fs1 g6)
            (fun s H C cl fp => (sE elt _ _ c F lev ((ob s H C cl fp).okx rfl) x h8).1) (no_set h6 X.env) (no_set g5)) fun D σ H z => ?_
          rw [ownP_snd]
          exact lE_lc2 hs hs1 σ H _ (lS_set D σ H z)
        · cases h
      | _ => cases hlc
    · cases h
  · cases h
theorem sS_par (is : List Nat) (as : Ts) : SS (.par is as) := fun X k c F lev o st h => by
  unfold chkS at h
  split at h
  · rename_i t v p hv
    obtain rfl := vAsg_of hv
    split at h
    · rename_i ts vs ht hvv
      obtain ⟨kt, pt, rfl⟩ := vTup_of ht
      obtain ⟨kv, pv, rfl⟩ := vTup_of hvv
      simp only [Bool.and_eq_true, Bool.not_eq_true'] at h
      obtain ⟨⟨⟨⟨h1, h2⟩, h3⟩, h4⟩, h5⟩ := h
      have pa := snds as (sAll as) X k c F lev o vs h3
      have pl := chks_plain as vs h3
      unfold parB at h2
      split at h2
      · rename_i i j a b x y
        split at h2
        · rename_i n pn m pm hn hm
          obtain rfl := vName_of hn
          obtain rfl := vName_of hm
          simp only [Bool.and_eq_true, decide_eq_true_eq] at h2
          obtain ⟨⟨⟨⟨g1, g2⟩, g3⟩, g4⟩, g5⟩ := h2
          obtain ⟨a1, a2⟩ := o.toOk0.lcl g1
          obtain ⟨b1, b2⟩ := o.toOk0.lcl g2
          exact psW (ps_par o.calm o.nd a1 b1 g4 a2 b2 pa (swapped2 (o.toOk0.fnk h1) a2 b2 g3 g5 (pl x (by simp)) (pl y (by simp)) h4 h5) (by rfl)) lS_par2
        · cases h2
      · rename_i i j l a b d x y z
        split at h2
        · rename_i n pn m pm r pr hn hm hr
          obtain rfl := vName_of hn
          obtain rfl := vName_of hm
          obtain rfl := vName_of hr
          simp only [Bool.and_eq_true, decide_eq_true_eq] at h2
          obtain ⟨⟨⟨⟨⟨⟨⟨⟨⟨⟨g1, g2⟩, g3⟩, g4⟩, g5⟩, g6⟩, g7⟩, g8⟩, g9⟩, g10⟩, g11⟩ := h2
          obtain ⟨a1, a2⟩ := o.toOk0.lcl g1
          obtain ⟨b1, b2⟩ := o.toOk0.lcl g2
          obtain ⟨c1, c2⟩ := o.toOk0.lcl g3
          exact psW (ps_par3 o.calm o.nd a1 b1 c1 g6 g7 g8 a2 b2 c2 pa (swapped3 (o.toOk0.fnk h1) a2 b2 c2 g4 g5 g9 g10 g11 (pl x (by simp)) (pl y (by simp)) (pl z (by simp)) h4 h5) (by rfl)) lS_par3
        · cases h2
      · cases h2
    · cases h
  · cases h
theorem sS_asg (tg : Tg) (e : Tm) : SS (.asg tg e) := fun X k c F lev o st h => by
  unfold chkS at h
  split at h
  · rename_i t v p hv
    obtain rfl := vAsg_of hv
    simp only [Bool.and_eq_true, Bool.or_eq_true] at h
    obtain ⟨⟨⟨⟨h1, h2⟩, h3⟩, h4⟩, h5⟩ := h
    have hg := sndG o.toOk0 tg t h1
    have he := (sE e X k c F lev o v h2).1
    have ha : (assignEach [t] X.env).map (·.2) = [assign t X.env] := by rw [asgE_plain [t] (by simpa using h4)]; rfl
    rcases h5 with h5 | ⟨h5, h6⟩
    · cases tg with
      | sb i n =>
        unfold chkG at h1
        split at h1
        · rename_i a b hs
          obtain ⟨q, rfl⟩ := vSub_of hs
          exact psW (ps_asg he hg (swaps_other h3 rfl) (by rfl) ha) lS_asg
        · cases h1
      | nm i => cases h5
      | tp gs => cases h5
    · cases tg with
      | tp gs =>
        unfold chkG at h1
        split at h1
        · rename_i es ht
          exact psW (ps_asg he hg (swaps_other h3 (by obtain ⟨kt, pt, rfl⟩ := vTup_of ht; rfl)) (swapped_none (by rw [o.sc]; exact h6) (by rw [ht]; rfl)) ha) lS_asg
        · cases h1
      | nm i => cases h5
      | sb i n => cases h5
  · cases h
theorem sS_aug (i : Nat) (e : Tm) : SS (.aug i e) := fun X k c F lev o st h => by
  unfold chkS at h
  split at h
  · rename_i t op v hv
    obtain ⟨p, rfl⟩ := vAug_of hv
    split at h
    · rename_i x px hn
      obtain rfl := vName_of hn
      simp only [Bool.and_eq_true, decide_eq_true_eq] at h
      obtain ⟨⟨rfl, h2⟩, h3⟩ := h
      obtain ⟨q1, q2, q3⟩ := loc_of o.toOk0 h2
      exact psW (ps_aug o.nd q1 q2 (sE e X k c F lev o v h3).1 ip_add q3) lS_aug
    · cases h
  · cases h
theorem sS_put (i : Nat) (a b : Tm) : SS (.put i a b) := fun X k c F lev o st h => by
  unfold chkS at h
  split at h
  · rename_i t v p hv
    obtain rfl := vAsg_of hv
    split at h
    · rename_i x y hs
      obtain ⟨q, rfl⟩ := vSub_of hs
      simp only [Bool.and_eq_true] at h
      obtain ⟨⟨⟨⟨h1, h2⟩, h3⟩, h4⟩, h5⟩ := h
      obtain ⟨⟨n, np, rfl, _⟩, ho⟩ := o.toOk0.varE h1
      exact psW (ps_asg (sE b X k c F lev o v h3).1 (pg_sub ho (sE a X k c F lev o y h2).1 (set_dicO o.toOk0.bx.room) (by intro u; cases y <;> first | rfl | (cases h5; done))) (swaps_other h4 rfl) (by rfl) (by rfl)) lS_put
    · cases h
  · cases h
theorem sS_app (i : Nat) (e : Tm) : SS (.app i e) := fun X k c F lev o st h => by
  unfold chkS at h
  split at h
  · rename_i cc hv
    obtain ⟨p, rfl⟩ := vExp_of hv
    split at h
    · rename_i ob m p2 y q hc
      obtain rfl := vCA_of hc
      simp only [Bool.and_eq_true, decide_eq_true_eq] at h
      obtain ⟨⟨⟨⟨rfl, h2⟩, h3⟩, h4⟩, h5⟩ := h
      obtain ⟨⟨n, np, rfl, _⟩, ho⟩ := o.toOk0.varE h2
      exact psW (ps_expr (pe_bm PySem.F.plainAttrs_list PySem.F.slot_list_append PySem.F.type_list_append mt_append ho (pa1 (sE e X k c F lev o y h3).1 h4) rfl (by rw [star1 h4]; rfl) h5 (star_cons h4) rfl) rfl) lS_app
    · cases h
  · cases h
theorem sS_ext (i : Nat) (as : Ts) : SS (.ext i as) := fun X k c F lev o st h => by
  unfold chkS at h
  split at h
  · rename_i cc hv
    obtain ⟨p, rfl⟩ := vExp_of hv
    split at h
    · rename_i ob m p2 y q hc
      obtain rfl := vCA_of hc
      simp only [Bool.and_eq_true, decide_eq_true_eq] at h
      obtain ⟨⟨⟨rfl, h2⟩, h5⟩, h3⟩ := h
      obtain ⟨⟨n, np, rfl, _⟩, ho⟩ := o.toOk0.varE h2
      split at h3
      · rename_i es hl
        obtain ⟨pl, rfl⟩ := vLst_of hl
        exact psW (ps_expr (pe_bm PySem.F.plainAttrs_list PySem.F.slot_list_extend PySem.F.type_list_extend mt_extend ho (pa1 (pe_lst (snds as (sAll as) X k c F lev o es h3)) rfl) rfl rfl h5 rfl rfl) rfl) lS_ext
      · cases h3
    · cases h
  · cases h
theorem sS_ret (e : Tm) : SS (.ret e) := fun X k c F lev o st h => by
  unfold chkS at h
  split at h
  · rename_i v hv
    obtain ⟨p, rfl⟩ := vRet_of hv
    exact psW (ps_ret (sE e X k c F lev o v h).1) lS_ret
  · cases h
theorem sS_reto (i : Nat) : SS (.reto i) := fun X k c F lev o st h => by
  unfold chkS at h
  split at h
  · rename_i v hv
    obtain ⟨p, rfl⟩ := vRet_of hv
    exact psW (ps_ret (o.toOk0.varE h).2) lS_reto
  · cases h
theorem sS_ife (e : Tm) (a b : Ss) (ha : SSs a) (hb : SSs b) : SS (.ife e a b) := fun X k c F lev o st h => by
  unfold chkS at h
  split at h
  · rename_i t x y hv
    obtain ⟨p, rfl⟩ := vIfS_of hv
    simp only [Bool.and_eq_true] at h
    exact psW (ps_if (sE e X k c F lev o t h.1.1).2 (ha X k c F lev o x h.1.2) (hb X k c F lev o y h.2)) lS_ife
  · cases h
theorem sS_for (tg : Tg) (it : Im) (b : Ss) (hb : SSs b) : SS (.for_ tg it b) := fun X k c F lev o st h => by
  unfold chkS at h
  split at h
  · rename_i t y bd hv
    obtain ⟨p, rfl⟩ := vFor_of hv
    simp only [Bool.and_eq_true] at h
    exact psW (ps_for (by rw [o.xe]; exact PassesOwn.never) o.calm (sIm it X k c F lev o t y h.1.1.2) (sndG o.toOk0 tg t h.1.1.1) (hb X k c F lev o bd h.2) (no_set h.1.2 X.env)) lS_for
  · cases h
theorem sS_foro (tg : Tg) (i : Nat) (b : Ss) (hb : SSs b) : SS (.foro tg i b) := fun X k c F lev o st h => by
  unfold chkS at h
  split at h
  · rename_i t y bd hv
    obtain ⟨p, rfl⟩ := vFor_of hv
    simp only [Bool.and_eq_true] at h
    obtain ⟨⟨n, np, rfl, _⟩, ho⟩ := o.toOk0.varE h.1.2
    exact psW (ps_for (by rw [o.xe]; exact PassesOwn.never) o.calm (pi_list ho) (sndG o.toOk0 tg t h.1.1) (hb X k c F lev o bd h.2) (no_set rfl X.env)) lS_foro
  · cases h
theorem sS_whl (n : Nat) (e : Tm) (b : Ss) (hb : SSs b) : SS (.whl n e b) := fun X k c F lev o st h => by
  unfold chkS at h
  split at h
  · rename_i t bd hv
    obtain ⟨p, rfl⟩ := vWh_of hv
    simp only [Bool.and_eq_true] at h
    exact psW (ps_while (by rw [o.xe]; exact PassesOwn.never) (sE e X k c F lev o t h.1).2 (hb X k c F lev o bd h.2)) lS_whl
  · cases h
theorem sS_brk : SS .brk := fun X k c F lev o st h => by
  obtain ⟨p, rfl⟩ := vBrk_of h
  exact psW ps_break lS_brk
theorem sSs_nil : SSs .nil := fun X k c F lev o st h => by
  cases st with
  | nil => exact pssW pss_nil lS_nil
  | cons => exact absurd h (by intro z; cases z)
theorem sSs_cons (s : Sm) (r : Ss) (hs : SS s) (hr : SSs r) : SSs (.cons s r) := fun X k c F lev o st h => by
  cases st with
  | nil => exact absurd h (by intro z; cases z)
  | cons st rest =>
    have h : (chkS s k st && chkSs r k rest) = true := h
    simp only [Bool.and_eq_true] at h
    exact pssW (pss_cons (hs X k c F lev o st h.1) (hr X k c F lev o rest h.2)) lS_cons
mutual
theorem sS : ∀ s : Sm, SS s
  | .set i e => sS_set i e
  | .setLc i e => sS_setLc i e
  | .own i e => sS_own i e
  | .par is as => sS_par is as
  | .asg tg e => sS_asg tg e
  | .aug i e => sS_aug i e
  | .put i a b => sS_put i a b
  | .app i e => sS_app i e
  | .ext i as => sS_ext i as
  | .ret e => sS_ret e
  | .reto i => sS_reto i
  | .ife e a b => sS_ife e a b (sSs a) (sSs b)
  | .for_ tg it b => sS_for tg it b (sSs b)
  | .foro tg i b => sS_foro tg i b (sSs b)
  | .whl n e b => sS_whl n e b (sSs b)
  | .brk => sS_brk
theorem sSs : ∀ s : Ss, SSs s
  | .nil => sSs_nil
  | .cons s r => sSs_cons s r (sS s) (sSs r)
end
end K26
namespace K26
open PySem PySem.Spec PyProof.Rows L2 PySem.W PySem.SeqAt

/-! ### defs -/
section
variable {P : Program} {w : World} {K : PySem.W.Frag} {mg : Str → Option Value} {base : Heap}
/-- what holds of the names of the top, at a level -/
structure Lv (P : Program) (w : World) (K : PySem.W.Frag) (mg : Str → Option Value) (base : Heap) (c : Cf) (tt : List (Addr × Str)) (lev : Nat) : Prop where
  blt : ∀ x ∈ (["len", "abs", "int", "max", "min", "list", "tuple", "all", "sorted", "str", "repr", "divmod", "isinstance", "dict", "set", "range", "enumerate", "zip", "bool"] : List Str), mg x = none
  mgG : ∀ g x, gnm g = some x → ∃ u v, mg x = some u ∧ RelV v u ∧ ∀ M H, At ⟨P, w, K⟩ M H v (c.gl g)
  fns : ∀ f g, c.fn f = some g → ∃ x fa fd ps, fnm f = some x ∧ mg x = some (.ref fa) ∧ keepIn K (.ref fa) = true ∧ Binds K fd ps [] ∧ FnG P w K mg base lev fa fd ps (pureS ⟨P, w, K⟩ g) ∧
    (f = 38 → ∀ (s : Shared) (u1 u2 : Value), BindsTo s fd ⟨[], [("certificate", u1), ("claim", u2)]⟩ (ps.zip [u2, u1]))
  pfs : ∀ f g, c.pf f = some g → ∃ x fa fd ps, fnm f = some x ∧ mg x = some (.ref fa) ∧ keepIn K (.ref fa) = true ∧ Binds K fd ps [] ∧ FnG P w K mg base lev fa fd ps (poolS ⟨P, w, K⟩ tt g)
theorem FnG.mono {j k : Nat} {f : Addr} {fd : FuncData} {ps : List Str} {sp : Sg} (D : FnG P w K mg base j f fd ps sp) (h : j ≤ k) : FnG P w K mg base k f fd ps sp :=
  ⟨D.len, fun A outer s H args us vs Q r => D.run A outer s H args us vs Q (r.mono h)⟩
theorem Lv.mono {c : Cf} {tt : List (Addr × Str)} {j k : Nat} (L : Lv P w K mg base c tt j) (h : j ≤ k) : Lv P w K mg base c tt k :=
  ⟨L.blt, L.mgG, fun f g e => let ⟨x, fa, fd, ps, h1, h2, h3, h4, h5, h6⟩ := L.fns f g e; ⟨x, fa, fd, ps, h1, h2, h3, h4, h5.mono h, h6⟩, fun f g e => let ⟨x, fa, fd, ps, h1, h2, h3, h4, h5⟩ := L.pfs f g e; ⟨x, fa, fd, ps, h1, h2, h3, h4, h5.mono h⟩⟩
theorem Lv.ok0 {c : Cf} {F : Fx} {lev : Nat} (L : Lv P w K mg base c F.tt lev) {N ps : List Str} {qual : Str} {sc : Scope} {f : Addr} {cd : Value} {A : Around} {outer : List Env} {s : Shared} {H : Hp} (lam : Bool) (S : FnScope N ps sc) (gd : A.guards = some [])
    (rm : Room lev (A.deeper (envOfC qual sc s.heap.objs.size f cd))) (hl : c.lf = none) : Ok0 (cxOf L2.CX0 P w K mg base N qual sc f cd A outer s H L2.E0).nox ⟨sc, N, true, lam⟩ c F lev where
  gd := gd
  calm := rfl
  blt := L.blt
  N := rfl
  nd := S.nd
  sc := rfl
  top := fun _ => rfl
  xe := rfl
  rm := rm
  mgG := L.mgG
  fns := L.fns
  pfs := L.pfs
  lf := fun _ l h => by rw [hl] at h; cases h
theorem Lv.ok0L {c : Cf} {F : Fx} {lev : Nat} (L : Lv P w K mg base c F.tt lev) {N ps : List Str} {qual : Str} {sc : Scope} {f : Addr} {cd : Value} {A : Around} {outer : List Env} {s : Shared} {H : Hp} (lam : Bool) (S : FnScope N ps sc) (gd : A.guards = some [])
    (rm : Room lev (A.deeper (envOfC qual sc s.heap.objs.size f cd))) (hlf : ∀ l, c.lf = some l → ∀ (i : Nat) (a : Str) (arg : Expr) (ta : TE) (p1 p2 : Pos), (⟨sc, N, true, lam⟩ : Ck).vis i a = true → plainE arg = true → PE (cxOf L2.CX0 P w K mg base N qual sc f cd A outer s H L2.E0).nox arg ta →
      PE (cxOf L2.CX0 P w K mg base N qual sc f cd A outer s H L2.E0).nox (.Call (.Name a p1) [arg] [] p2) (fun σ H Q => (∃ fa, F.fa = some fa ∧ σ[i]? = some (some (.ref fa))) ∧ ta σ H fun x H1 => rLf ⟨P, w, K⟩ F.kp l x H1 Q)) : Ok0 (cxOf L2.CX0 P w K mg base N qual sc f cd A outer s H L2.E0).nox ⟨sc, N, true, lam⟩ c F lev where
  gd := gd
  calm := rfl
  blt := L.blt
  N := rfl
  nd := S.nd
  sc := rfl
  top := fun _ => rfl
  xe := rfl
  rm := rm
  mgG := L.mgG
  fns := L.fns
  pfs := L.pfs
  lf := fun _ l h => hlf l h
/-- a def's run over data -/
def runD (D : DefT) (c : Cf) (ds : List PyData) : Option PyData := if ds.length = D.np then (D.run c (ds.map fun d => some (.d d)) []).map (·.1) else none
def runP (D : DefT) (c : Cf) (ds : List PyData) (S : Pl) : Option (PyData × Pl) := if ds.length + 1 = D.np then D.run c (some .pool :: ds.map fun d => some (.d d)) S else none
theorem getD_dat {ds : List PyData} {n : Nat} {i : Nat} {s : Sl} (h : (ds.map (fun d => some (Sl.d d)) ++ List.replicate n none)[i]? = some (some s)) : ∃ d, ds[i]? = some d ∧ s = .d d := by
  rw [List.getElem?_append] at h
  split at h
  · rw [List.getElem?_map] at h
    cases e : ds[i]? with
    | none => rw [e] at h; cases h
    | some d => rw [e] at h; cases h; exact ⟨d, rfl, rfl⟩
  · rw [List.getElem?_replicate] at h
    split at h <;> cases h
theorem start_get {N : List Str} {vs : List V} {i : Nat} {v : V} (h : vs[i]? = some v) : (L2.start N vs)[i]? = some (some v) := by
  unfold L2.start
  have hi : i < vs.length := (List.getElem?_eq_some_iff.mp h).1
  rw [List.getElem?_append_left (by simpa using hi), List.getElem?_map, h]
  rfl
/-- a pure def keeps its promise -/
theorem pure_ok {D : DefT} {c : Cf} {tt : List (Addr × Str)} {lev : Nat} {x qual : Str} {st : Stmt} {f : Addr} {fd : FuncData} (lam : Bool) (hp : D.np ≤ D.N.length) (L : Lv P w K mg base c tt lev) (hl : c.lf = none) (Fn : L2.Fun K x qual st f fd) (S : FnScope D.N (D.N.take D.np) (L2.defScope st))
    (chk : chkSs D.body ⟨L2.defScope st, D.N, true, lam⟩ (L2.defBody st) = true)
    (hst : lam = true → ∀ (cdv : Value) (A : Around) (outer : List Env) (s : Shared) (H : Hp), codeIn K cdv qual = true → fd.code = cdv → A.guards = some [] →
      Ok0 (cxOf L2.CX0 P w K mg base D.N qual (L2.defScope st) f cdv A outer s H L2.E0).nox ⟨L2.defScope st, D.N, true, true⟩ c { tt := tt } (lev + 3) → Okx (cxOf L2.CX0 P w K mg base D.N qual (L2.defScope st) f cdv A outer s H L2.E0).nox ⟨L2.defScope st, D.N, true, true⟩ c { tt := tt } (lev + 3)) : FnG P w K mg base (lev + 4) f fd (D.N.take D.np) (pureS ⟨P, w, K⟩ (runD D c)) := by
  have hnp : ∀ ds d, runD D c ds = some d → ds.length = D.np := fun ds d h => by
    unfold runD at h
    split at h
    · assumption
    · cases h
  refine fng_of (k := lev + 3) Fn S (fun vs H Q ⟨M, ds, d, tr, a, e, k⟩ => ?_) fun cdv A outer s H vs Q hcd hfd gd hr ⟨M, ds, d, tr, a, e, k⟩ => ?_
  · rw [a.length, hnp ds d e, List.length_take, Nat.min_eq_left hp]
  · have o0 : Ok0 (cxOf L2.CX0 P w K mg base D.N qual (L2.defScope st) f cdv A outer s H L2.E0).nox ⟨L2.defScope st, D.N, true, lam⟩ c { tt := tt } (lev + 3) := (L.mono (by omega)).ok0 (F := { tt := tt }) lam S gd hr hl
    have ox : Okx (cxOf L2.CX0 P w K mg base D.N qual (L2.defScope st) f cdv A outer s H L2.E0).nox ⟨L2.defScope st, D.N, true, lam⟩ c { tt := tt } (lev + 3) := by
      cases lam with
      | false => exact o0.okx rfl
      | true => exact hst rfl cdv A outer s H hcd hfd gd o0
    refine ⟨_, sSs D.body _ _ c { tt := tt } _ ox _ chk, ?_⟩
    have hn := hnp ds d e
    unfold runD at e
    rw [if_pos hn] at e
    obtain ⟨r, e1, er⟩ := Option.map_eq_some_iff.mp e
    obtain ⟨o, e2, e3⟩ := Option.bind_eq_some_iff.mp e1
    let W : Wx := { M := M, base := M, pl := none, T := [], F := { tt := tt } }
    have R : Rep ⟨P, w, K⟩ W H (L2.start D.N vs) (ds.map (fun d => some (Sl.d d)) ++ List.replicate (D.N.length - D.np) none) [] := by
      refine ⟨tr, fun a h => h, fun a h => h.elim, ?_, fun i x h => ?_, fun i h => ?_, fun i h => ?_, fun p hp => (by cases hp), ⟨fun _ => 0, fun i ⟨s, h, z⟩ => ?_, fun i j ⟨s, h, z⟩ => ?_, fun i xs h => ?_, fun i xs h => ?_⟩, rfl⟩
      · unfold L2.start
        simp only [List.length_append, List.length_map, List.length_replicate]
        rw [a.length, hn]
      · obtain ⟨d', h1, h2⟩ := getD_dat h
        cases h2
        obtain ⟨v, h3, h4⟩ := a.get h1
        exact ⟨v, start_get h3, h4⟩
      · obtain ⟨d', h1, h2⟩ := getD_dat h; cases h2
      · obtain ⟨d', h1, h2⟩ := getD_dat h; cases h2
      · obtain ⟨d', h1, h2⟩ := getD_dat h; subst h2; cases z
      · obtain ⟨d', h1, h2⟩ := getD_dat h; subst h2; cases z
      · obtain ⟨d', h1, h2⟩ := getD_dat h; cases h2
      · obtain ⟨d', h1, h2⟩ := getD_dat h; cases h2
    refine ⟨W, _, [], o, rfl, R, e2, ?_⟩
    have sm : ∀ W' H', Ext W W' H H' → Same H H' := fun W' H' x a o h => x.kp a o (fun z => z) (Classical.em (M a)) h
    cases o with
    | nx Γ S =>
      cases e3
      subst er
      exact fun W' σ' H' x R' => k _ H' (sm _ _ x) .non
    | bk Γ S => cases e3
    | rt d' S =>
      cases e3
      subst er
      exact fun v W' H' x tr' b q a => k v H' (sm _ _ x) (a.fut (.less fun a h => b a (by rw [x.base]; exact h)))
theorem getD_pool {ds : List PyData} {n : Nat} {i : Nat} {s : Sl} (h : (some Sl.pool :: ds.map (fun d => some (Sl.d d)) ++ List.replicate n none)[i]? = some (some s)) : (i = 0 ∧ s = .pool) ∨ ∃ d j, i = j + 1 ∧ ds[j]? = some d ∧ s = .d d := by
  cases i with
  | zero => cases h; exact .inl ⟨rfl, rfl⟩
  | succ j =>
    obtain ⟨d, h1, h2⟩ := getD_dat (i := j) (n := n) (ds := ds) (by simpa using h)
    exact .inr ⟨d, j, rfl, h1, h2⟩
/-- a def that draws keeps its promise -/
theorem pool_ok {D : DefT} {c : Cf} {tt : List (Addr × Str)} {lev : Nat} {x qual : Str} {st : Stmt} {f : Addr} {fd : FuncData} (lam : Bool) (hp : D.np ≤ D.N.length) (L : Lv P w K mg base c tt lev) (hl : c.lf = none) (Fn : L2.Fun K x qual st f fd) (S : FnScope D.N (D.N.take D.np) (L2.defScope st))
    (chk : chkSs D.body ⟨L2.defScope st, D.N, true, lam⟩ (L2.defBody st) = true)
    (hst : lam = true → ∀ (cdv : Value) (A : Around) (outer : List Env) (s : Shared) (H : Hp), codeIn K cdv qual = true → fd.code = cdv → A.guards = some [] →
      Ok0 (cxOf L2.CX0 P w K mg base D.N qual (L2.defScope st) f cdv A outer s H L2.E0).nox ⟨L2.defScope st, D.N, true, true⟩ c { tt := tt } (lev + 3) → Okx (cxOf L2.CX0 P w K mg base D.N qual (L2.defScope st) f cdv A outer s H L2.E0).nox ⟨L2.defScope st, D.N, true, true⟩ c { tt := tt } (lev + 3)) : FnG P w K mg base (lev + 4) f fd (D.N.take D.np) (poolS ⟨P, w, K⟩ tt (runP D c)) := by
  have hnp : ∀ ds S0 d, runP D c ds S0 = some d → ds.length + 1 = D.np := fun ds S0 d h => by
    unfold runP at h
    split at h
    · assumption
    · cases h
  refine fng_of (k := lev + 3) Fn S (fun vs H Q ⟨W, us, ds, S0, d, S1, p, ev, epl, ett, tr, sub, po, a, e, k⟩ => ?_) fun cdv A outer s H vs Q hcd hfd gd hr ⟨W, us, ds, S0, d, S1, p, ev, epl, ett, tr, sub, po, a, e, k⟩ => ?_
  · rw [ev, List.length_cons, a.length, hnp ds S0 _ e, List.length_take, Nat.min_eq_left hp]
  · have o0 : Ok0 (cxOf L2.CX0 P w K mg base D.N qual (L2.defScope st) f cdv A outer s H L2.E0).nox ⟨L2.defScope st, D.N, true, lam⟩ c { tt := tt } (lev + 3) := (L.mono (by omega)).ok0 (F := { tt := tt }) lam S gd hr hl
    have ox : Okx (cxOf L2.CX0 P w K mg base D.N qual (L2.defScope st) f cdv A outer s H L2.E0).nox ⟨L2.defScope st, D.N, true, lam⟩ c { tt := tt } (lev + 3) := by
      cases lam with
      | false => exact o0.okx rfl
      | true => exact hst rfl cdv A outer s H hcd hfd gd o0
    refine ⟨_, sSs D.body _ _ c { tt := tt } _ ox _ chk, ?_⟩
    have hn := hnp ds S0 _ e
    unfold runP at e
    rw [if_pos hn] at e
    obtain ⟨o, e2, e3⟩ := Option.bind_eq_some_iff.mp e
    subst ev
    let W1 : Wx := { M := W.M, base := W.M, pl := some p, T := W.T, F := { tt := tt } }
    have po1 : PoolOk ⟨P, w, K⟩ W1 H S0 p := ⟨sub _ po.base, po.tabs, fun t ht => sub _ (po.tb t ht), po.at_, po.z, po.tt.trans ett⟩
    have C1 : W1.C = W.C := by
      funext b
      unfold Wx.C
      rw [epl]
    have R : Rep ⟨P, w, K⟩ W1 H (L2.start D.N (.ref p :: us)) (some Sl.pool :: ds.map (fun d => some (Sl.d d)) ++ List.replicate (D.N.length - D.np) none) S0 := by
      refine ⟨tr, fun a h => h, fun a h => h.elim, ?_, fun i x h => ?_, fun i h => ?_, fun i h => ?_, fun p hp => (by cases hp), ⟨fun _ => 0, fun i ⟨s, h, z⟩ => ?_, fun i j ⟨s, h, z⟩ => ?_, fun i xs h => ?_, fun i xs h => ?_⟩, ?_⟩
      · unfold L2.start
        simp only [List.length_append, List.length_map, List.length_replicate, List.length_cons]
        rw [a.length, hn]
      · rcases getD_pool h with ⟨_, h2⟩ | ⟨d', j, ej, h1, h2⟩
        · cases h2
        · cases h2
          obtain ⟨v, h3, h4⟩ := a.get h1
          exact ⟨v, start_get (by rw [ej]; simpa using h3), h4⟩
      · rcases getD_pool h with ⟨ei, h2⟩ | ⟨d', j, ej, h1, h2⟩
        · exact ⟨p, rfl, start_get (by rw [ei]; rfl)⟩
        · cases h2
      · rcases getD_pool h with ⟨_, h2⟩ | ⟨d', j, ej, h1, h2⟩ <;> cases h2
      · rcases getD_pool h with ⟨_, h2⟩ | ⟨d', j, ej, h1, h2⟩ <;> subst h2 <;> cases z
      · rcases getD_pool h with ⟨_, h2⟩ | ⟨d', j, ej, h1, h2⟩ <;> subst h2 <;> cases z
      · rcases getD_pool h with ⟨_, h2⟩ | ⟨d', j, ej, h1, h2⟩ <;> cases h2
      · rcases getD_pool h with ⟨_, h2⟩ | ⟨d', j, ej, h1, h2⟩ <;> cases h2
      · exact po1
    refine ⟨W1, _, S0, o, rfl, R, e2, ?_⟩
    have kp : ∀ W' H', Ext W1 W' H H' → Keep W H H' := fun W' H' x b o n h => x.kp b o (by rw [C1]; exact n) (Classical.em (W.M b)) h
    have fin : ∀ (W' : Wx) (H' : Hp) (v : V), Ext W1 W' H H' → (∀ a, W'.base a → W'.M a) → PoolAt ⟨P, w, K⟩ W' H' S1 → At ⟨P, w, K⟩ W'.M H' v d → Q v H' := fun W' H' v x b q av => by
      have le : Fut W'.M W.M H' H' := .less fun a h => b a (by rw [x.base]; exact h)
      refine k v H' (kp _ _ x) ?_ (av.fut le)
      unfold PoolAt at q
      rw [show W'.pl = some p from x.pl] at q
      obtain ⟨vs, z1, z2⟩ := q.at_
      exact ⟨po.base, by have := q.tabs; rw [show W'.T = W.T from x.T] at this; exact this, po.tb, ⟨vs, z1, z2.fut le⟩, q.z, po.tt⟩
    cases o with
    | nx Γ S =>
      cases e3
      exact fun W' σ' H' x R' => fin W' H' .non x R'.sub R'.pool .non
    | bk Γ S => cases e3
    | rt d' S =>
      cases e3
      exact fun v W' H' x tr' b q av => fin W' H' v x b q av
end
end K26
namespace K26
open PySem PySem.Spec PyProof.Rows L2 PySem.W PySem.SeqAt

section
variable {P : Program} {w : World} {K : PySem.W.Frag} {mg : Str → Option Value} {base : Heap}
/-- what the head tells of a def -/
structure DefH (K : PySem.W.Frag) (mg : Str → Option Value) (D : DefT) (st : Stmt) (fa : Addr) (fd : FuncData) : Prop where
  mg : mg D.nm = some (.ref fa)
  bnd : Binds K fd (D.N.take D.np) []
  fn : L2.Fun K D.nm D.nm st fa fd
  sc : FnScope D.N (D.N.take D.np) (L2.defScope st)
  np : D.np ≤ D.N.length
  chk : chkSs D.body ⟨L2.defScope st, D.N, true, decide (D.nm = "_law_claims")⟩ (L2.defBody st) = true
structure HeadF (P : Program) (w : World) (K : PySem.W.Frag) (mg : Str → Option Value) (base : Heap) (tt : List (Addr × Str)) : Prop where
  blt : ∀ x ∈ (["len", "abs", "int", "max", "min", "list", "tuple", "all", "sorted", "str", "repr", "divmod", "isinstance", "dict", "set", "range", "enumerate", "zip", "bool"] : List Str), mg x = none
  mgG : ∀ g x, gnm g = some x → ∃ u v, mg x = some u ∧ RelV v u ∧ ∀ M H, At ⟨P, w, K⟩ M H v (glD g)
  defs : ∀ f D, dT f = some D → ∃ st fa fd, DefH K mg D st fa fd
  /-- accepts -/
  acc : ∀ n, Lv P w K mg base (cfN n) tt (4 * n) → ∃ fa fd ps, mg "accepts" = some (.ref fa) ∧ keepIn K (.ref fa) = true ∧ Binds K fd ps [] ∧ FnG P w K mg base (4 * n + 4) fa fd ps (pureS ⟨P, w, K⟩ (acceptsD (cfN n).fn)) ∧
    ∀ (s : Shared) (u1 u2 : Value), BindsTo s fd ⟨[], [("certificate", u1), ("claim", u2)]⟩ (ps.zip [u2, u1])
  /-- a lambda that is handed to _law_settled -/
  set : ∀ n, (∀ m, m ≤ n → Lv P w K mg base (cfN m) tt (4 * m)) → ∀ (D : DefT) (st : Stmt) (fa : Addr) (fd : FuncData), DefH K mg D st fa fd → D.nm = "_law_claims" → ∀ (cdv : Value) (A : Around) (outer : List Env) (s : Shared) (H : Hp), codeIn K cdv D.nm = true → fd.code = cdv → A.guards = some [] →
      Ok0 (cxOf L2.CX0 P w K mg base D.N D.nm (L2.defScope st) fa cdv A outer s H L2.E0).nox ⟨L2.defScope st, D.N, true, true⟩ (cfN n) { tt := tt } (4 * n + 3) →
      Okx (cxOf L2.CX0 P w K mg base D.N D.nm (L2.defScope st) fa cdv A outer s H L2.E0).nox ⟨L2.defScope st, D.N, true, true⟩ (cfN n) { tt := tt } (4 * n + 3)
theorem cfN_lf (n : Nat) : (cfN n).lf = none := by cases n <;> rfl
theorem cfN_gl (n : Nat) : (cfN n).gl = glD := by cases n <;> rfl
theorem dT38 : dT 38 = none := by decide
/-- EVERY DEF, AT EVERY DEPTH -/
theorem lvA {tt : List (Addr × Str)} (Hd : HeadF P w K mg base tt) : ∀ n, ∀ m, m ≤ n → Lv P w K mg base (cfN m) tt (4 * m)
  | 0, m, hm => (Nat.le_zero.mp hm) ▸ ⟨Hd.blt, Hd.mgG, fun f g e => (by cases e), fun f g e => (by cases e)⟩
  | n + 1, m, hm => by
    have ihA := lvA Hd n
    have ih := ihA n (Nat.le_refl n)
    by_cases hmn : m ≤ n
    · exact ihA m hmn
    have hm1 : m = n + 1 := Nat.le_antisymm hm (Nat.lt_of_not_le hmn)
    subst hm1
    clear hm hmn
    refine ⟨Hd.blt, Hd.mgG, fun f g e => ?_, fun f g e => ?_⟩
    · have e : (if f = 38 then some (acceptsD (cfN n).fn) else match dT f with
        | some D => if D.pool || D.fna then none else some fun ds => if ds.length = D.np then (D.run (cfN n) (ds.map fun d => some (.d d)) []).map (·.1) else none
        | none => none) = some g := e
      split at e
      · rename_i h38
        cases e
        obtain ⟨fa, fd, ps, h1, h2, h3, h4, h5⟩ := Hd.acc n ih
        exact ⟨"accepts", fa, fd, ps, by rw [h38]; rfl, h1, h2, h3, h4, fun _ => h5⟩
      · rename_i h38
        split at e
        · rename_i D hD
          split at e
          · cases e
          · cases e
            obtain ⟨st, fa, fd, h⟩ := Hd.defs f D hD
            refine ⟨D.nm, fa, fd, _, by unfold fnm; rw [if_neg h38, hD]; rfl, h.mg, h.fn.kp, h.bnd, pure_ok _ h.np ih (cfN_lf n) h.fn h.sc h.chk fun hl cdv A outer s H hcd hfd gd o => ?_, fun z => (h38 z).elim⟩
            have hnm := of_decide_eq_true hl
            have := Hd.set n ihA D st fa fd h hnm cdv A outer s H hcd hfd gd
            rw [hl] at *
            exact this o
        · cases e
    · have e : (match dT f with
        | some D => if D.pool then some fun ds S => if ds.length + 1 = D.np then D.run (cfN n) (some .pool :: ds.map fun d => some (.d d)) S else none else none
        | none => none) = some g := e
      split at e
      · rename_i D hD
        split at e
        · cases e
          obtain ⟨st, fa, fd, h⟩ := Hd.defs f D hD
          have h38 : f ≠ 38 := fun z => by rw [z, dT38] at hD; cases hD
          refine ⟨D.nm, fa, fd, _, by unfold fnm; rw [if_neg h38, hD]; rfl, h.mg, h.fn.kp, h.bnd, pool_ok _ h.np ih (cfN_lf n) h.fn h.sc h.chk fun hl cdv A outer s H hcd hfd gd o => ?_⟩
          exact Hd.set n ihA D st fa fd h (of_decide_eq_true hl) cdv A outer s H hcd hfd gd o
        · cases e
      · cases e
theorem lvN {tt : List (Addr × Str)} (Hd : HeadF P w K mg base tt) (n : Nat) : Lv P w K mg base (cfN n) tt (4 * n) := lvA Hd n n (Nat.le_refl n)
end
end K26
namespace K26
open PySem PySem.Spec PyProof.Rows L2 PySem.W PySem.SeqAt

/-! ### a lambda with one parameter, handed to a def -/
structure Lam1 (sc scope : Scope) (N : List Str) (caps : List Nat) (y : Str) : Prop where
  kind : scope.kind = .function
  co : scope.isCoroutine = false
  gen : scope.isGenerator = false
  yl : scope.names.lookup y = some .local
  nm : ∀ z ∈ scope.names, z = (y, .local) ∨ z.2 = .globalImplicit ∨ (z.2 = .free ∧ sc.names.lookup z.1 = some .cell)
  nd : (y :: caps.map fun i => (N[i]?).getD "").Nodup
  cp : ∀ i ∈ caps, ∃ x, N[i]? = some x ∧ sc.names.lookup x = some .cell ∧ scope.names.lookup x = some .free
theorem lam1_of {k : Ck} {caps : List Nat} {y : Str} {sc : Scope} (h : lamB k caps y sc = true) : Lam1 k.sc sc k.N caps y := by
  simp only [lamB, Bool.and_eq_true, Bool.or_eq_true, List.all_eq_true, decide_eq_true_eq, Bool.not_eq_true'] at h
  obtain ⟨⟨⟨⟨⟨⟨⟨⟨h1, h2⟩, h3⟩, h4⟩, h5⟩, h6⟩, h7⟩, h8⟩, h9⟩ := h
  refine ⟨h1, h2, h3, h6, fun z hz => ?_, h4, fun i hi => ?_⟩
  · rcases (h9 z hz).2 with (q | q) | q
    · exact .inl q
    · exact .inr (.inl q)
    · exact .inr (.inr q)
  · have hl := h5 i hi
    refine ⟨k.N[i], List.getElem?_eq_getElem hl, ?_, ?_⟩
    · have := h7 i hi
      rw [List.getElem?_eq_getElem hl] at this
      exact this
    · have := h8 i hi
      rw [List.getElem?_eq_getElem hl] at this
      exact this
/-- the lambda's context -/
def lam1Cx (X : Cx) (caps : List Nat) (y : Str) (A : Around) (outer : List Env) (s : Shared) (H : Hp) (scope : Scope) (f c' : Addr) : Cx :=
  { LamX.lamCx X A outer s H L2.E0 scope f c' with N := y :: caps.map fun i => (X.N[i]?).getD "" }
section
variable {X : Cx} {pins : List (Addr × Obj)} {σ : L2.St} {H HZ : Hp} {s s1 : Shared} {caps : List Nat} {y : Str} {scope : Scope}
theorem Lam1.nocell (L : Lam1 X.env.scope scope X.N caps y) : ∀ z ∈ scope.names, z.2 ≠ .cell := fun z hz e => by
  rcases L.nm z hz with q | q | q
  · rw [q] at e; cases e
  · rw [q] at e; cases e
  · rw [q.1] at e; cases e
theorem Lam1.has (L : Lam1 X.env.scope scope X.N caps y) (ok : X.Ok) : ∀ z ∈ scope.names, z.2 = .free → ∃ c, X.env.cells.lookup z.1 = some c := fun z hz e => by
  rcases L.nm z hz with q | q | q
  · rw [q] at e; cases e
  · rw [q] at e; cases e
  · exact ok.has _ (.inl q.2)
theorem lam1_start {A : Around} {outer : List Env} {f c' : Addr} {h₁ : Heap} {tk : Nat} {u : Value} {v : V} (I : Inv X pins σ H s) (L : Lam1 X.env.scope scope X.N caps y) (e0 : Env0 X.prog X.w X.K X.mg X.base A outer s1 HZ) (hd : A.handled = none)
    (un : Un (frs X.stack) [] H HZ s.heap s1.heap) (r : RelV v u) (hns : h₁.Ns s1.heap.objs.size fun x => ([(y, u)] : List (Str × Value)).reverse.lookup x) (kp : ∀ b o, s1.heap.get? b = some o → h₁.get? b = some o) :
    Inv (lam1Cx X caps y A outer s1 HZ scope f c') [] (some v :: caps.map fun i => (σ[i]?).join) HZ { s1 with heap := h₁, toks := tk } := by
  have ex0 : ∀ b : Addr, b ∉ (lam1Cx X caps y A outer s1 HZ scope f c').ex := fun b => List.not_mem_nil
  -- the captured cells are the def's
  have up : ∀ {x c}, (cloFrom X.env.cells scope.names []).lookup x = some c → X.env.cells.lookup x = some c := fun {x c} e => by
    rcases cloFrom_mem (PySem.mem_of_lookup e) with z | ⟨z1, z2⟩
    · cases z
    · obtain ⟨c1, hc⟩ := L.has I.ok _ z1 rfl
      have hc : X.env.cells.lookup x = some c1 := hc
      have : c = c1 := by
        rw [z2, hc] <;> rfl
      rw [this]
      exact hc
  have dn : ∀ {x}, scope.names.lookup x = some .free → ∃ c, (cloFrom X.env.cells scope.names []).lookup x = some c := fun {x} e =>
    mem_lookup (cloFrom_has (cells := X.env.cells) (acc := []) (PySem.mem_of_lookup e))
  have still : ∀ {c : Addr} {z : Option Value}, H c = none → s.heap.IsCell c z → h₁.IsCell c z := fun {c z} n ⟨ob, e, d⟩ => by
    obtain ⟨sl, e'⟩ := un.any e n (by simp)
    exact ⟨_, kp _ _ e', d⟩
  refine ⟨⟨e0.mod, L.kind, rfl, rfl, Nat.le_refl _, fun a b c h1 h2 => I.ok.inj a b c (up h1) (up h2), fun x hx => ?_, fun x c z _ => ?_, fun _ => hd, Around.frames_deeper e0.frames, .inr ⟨rfl, rfl⟩, fun b z => absurd z (ex0 b), e0.bs, e0.bsz, fun b _ _ => ex0 b,
      fun b z => absurd z (ex0 b), e0.funs, e0.frf⟩,
    rfl, e0.bare, Un.kept kp, ⟨_, hns, fun i x z e1 e2 e3 => ?_⟩, fun x c e => ?_, e0.hok.fresh (Nat.le_refl _), fun x c e => ?_, fun q hq => absurd (show q ∈ ([] : List (Addr × Obj)) ++ [] from hq) (by simp), e0.hok.kept kp, ?_⟩
  · have hx : scope.names.lookup x = some .cell ∨ scope.names.lookup x = some .free := hx
    rcases hx with hx | hx
    · exact absurd rfl (L.nocell _ (PySem.mem_of_lookup hx))
    · exact dn hx
  · have z : false = true := z
    cases z
  · cases i with
    | zero =>
      have e1 : some y = some x := e1
      have e2 : some (some v) = some (some z) := e2
      cases e1
      cases e2
      exact ⟨u, r, .inl ⟨L.yl, by simp⟩⟩
    | succ j =>
      have e1 : (caps.map fun i => ((X.N[i]?).getD ("" : Str)))[j]? = some x := e1
      have e2 : (caps.map fun i => (σ[i]?).join)[j]? = some (some z) := e2
      rw [List.getElem?_map] at e1 e2
      cases hj : caps[j]? with
      | none => rw [hj] at e1; cases e1
      | some i =>
        rw [hj] at e1 e2
        obtain ⟨x', g1, g2, g3⟩ := L.cp i (List.mem_of_getElem? hj)
        simp only [Option.map_some, Option.some.injEq] at e1 e2
        rw [g1] at e1
        have e1 : x' = x := e1
        subst e1
        have hs : σ[i]? = some (some z) := by
          cases hq : σ[i]? with
          | none => rw [hq] at e2; cases e2
          | some q => rw [hq] at e2; exact congrArg some e2
        obtain ⟨m, hn, hl⟩ := I.loc
        obtain ⟨w', rw', q⟩ := hl i x' z g1 hs (.inr (.inl g2))
        obtain ⟨c2, h2⟩ := dn g3
        refine ⟨w', rw', .inr ⟨.inr g3, c2, h2, ?_⟩⟩
        have c1 := up h2
        rcases q with ⟨k', _⟩ | ⟨_, c3, e', z'⟩
        · have k' : X.env.scope.names.lookup x' = some .local := k'
          rw [g2] at k'; cases k'
        · rw [c1] at e'
          cases e'
          exact still (I.freeC x' _ c1) z'
  · obtain ⟨w', z⟩ := I.cell x c (up e)
    exact ⟨w', still (I.freeC x c (up e)) z⟩
  · obtain ⟨z, ob, ho, hd⟩ := I.cell x c (up e)
    exact un.free c ob ho (I.freeC x c (up e)) (by simp)
  · show (some v :: caps.map fun i => (σ[i]?).join).length = (y :: caps.map fun i => ((X.N[i]?).getD ("" : Str))).length
    simp
end
end K26
namespace K26
open PySem PySem.Spec PyProof.Rows L2 PySem.W PySem.SeqAt

/-! ### what a value rests on -/
def Sup (M : Addr → Prop) (H : Hp) (L : List (Addr × HO)) : Prop := ∀ p ∈ L, ¬ M p.1 ∧ H p.1 = some p.2
section
variable {G : Gl0} {M : Addr → Prop} {H : Hp}
theorem Sup.nil : Sup M H [] := fun _ h => (nomatch h)
theorem Sup.l {L1 L2 : List (Addr × HO)} (h : Sup M H (L1 ++ L2)) : Sup M H L1 := fun p hp => h p (List.mem_append_left _ hp)
theorem Sup.r {L1 L2 : List (Addr × HO)} (h : Sup M H (L1 ++ L2)) : Sup M H L2 := fun p hp => h p (List.mem_append_right _ hp)
theorem Sup.app {L1 L2 : List (Addr × HO)} (h : Sup M H L1) (h' : Sup M H L2) : Sup M H (L1 ++ L2) := fun p hp => (List.mem_append.mp hp).elim (h p) (h' p)
mutual
theorem At.sup : ∀ {v : V} {d : PyData}, At G M H v d → ∃ L, Sup M H L ∧ ∀ M' H', Sup M' H' L → At G M' H' v d
  | _, _, .non => ⟨[], .nil, fun _ _ _ => .non⟩
  | _, _, .bl b => ⟨[], .nil, fun _ _ _ => .bl b⟩
  | _, _, .int b => ⟨[], .nil, fun _ _ _ => .int b⟩
  | _, _, .str b => ⟨[], .nil, fun _ _ _ => .str b⟩
  | _, _, .lst (a := a) (xs := xs) n h z t => by
    obtain ⟨L, h1, h2⟩ := AtL.sup t
    refine ⟨(a, .lst xs) :: L, fun p hp => ?_, fun M' H' s => ?_⟩
    · rcases List.mem_cons.mp hp with rfl | hp
      · exact ⟨n, h⟩
      · exact h1 p hp
    · have := s _ List.mem_cons_self
      exact .lst this.1 this.2 z (h2 M' H' fun p hp => s p (List.mem_cons_of_mem _ hp))
  | _, _, .tup (a := a) (xs := xs) h z t => by
    obtain ⟨L, h1, h2⟩ := AtL.sup t
    rcases h with ⟨n, h⟩ | h
    · refine ⟨(a, .tup xs) :: L, fun p hp => ?_, fun M' H' s => ?_⟩
      · rcases List.mem_cons.mp hp with rfl | hp
        · exact ⟨n, h⟩
        · exact h1 p hp
      · have := s _ List.mem_cons_self
        exact .tup (.inl this) z (h2 M' H' fun p hp => s p (List.mem_cons_of_mem _ hp))
    · exact ⟨L, h1, fun M' H' s => .tup (.inr h) z (h2 M' H' s)⟩
  | _, _, .dic (a := a) (xs := xs) (ep := ep) n m h u z t => by
    obtain ⟨L, h1, h2⟩ := AtD.sup t
    refine ⟨(a, dicO G.P G.w a xs ep) :: L, fun p hp => ?_, fun M' H' s => ?_⟩
    · rcases List.mem_cons.mp hp with rfl | hp
      · exact ⟨n, h⟩
      · exact h1 p hp
    · have := s _ List.mem_cons_self
      exact .dic this.1 m this.2 u z (h2 M' H' fun p hp => s p (List.mem_cons_of_mem _ hp))
theorem AtL.sup : ∀ {v : List V} {d : List PyData}, AtL G M H v d → ∃ L, Sup M H L ∧ ∀ M' H', Sup M' H' L → AtL G M' H' v d
  | _, _, .nil => ⟨[], .nil, fun _ _ _ => .nil⟩
  | _, _, .cons a t => by
    obtain ⟨L1, h1, h2⟩ := At.sup a
    obtain ⟨L2, h3, h4⟩ := AtL.sup t
    exact ⟨L1 ++ L2, h1.app h3, fun M' H' s => .cons (h2 M' H' s.l) (h4 M' H' s.r)⟩
theorem AtD.sup : ∀ {v : List (NestedKey × Addr × Value)} {d : List (PyData × PyData)}, AtD G M H v d → ∃ L, Sup M H L ∧ ∀ M' H', Sup M' H' L → AtD G M' H' v d
  | _, _, .nil => ⟨[], .nil, fun _ _ _ => .nil⟩
  | _, _, .cons k n r a t => by
    obtain ⟨L0, g1, g2⟩ := At.sup k
    obtain ⟨L1, h1, h2⟩ := At.sup a
    obtain ⟨L2, h3, h4⟩ := AtD.sup t
    exact ⟨L0 ++ (L1 ++ L2), g1.app (h1.app h3), fun M' H' s => .cons (g2 M' H' s.l) n r (h2 M' H' s.r.l) (h4 M' H' s.r.r)⟩
end
end
end K26
namespace K26
open PySem PySem.Spec PyProof.Rows L2 PySem.W PySem.SeqAt

section
variable {X : Cx} {pins : List (Addr × Obj)} {σ : L2.St} {H : Hp} {s : Shared} {caps : List Nat} {y : Str} {scope : Scope}
/-- the context of the def that got the lambda -/
abbrev gotCx (X : Cx) (Ng : List Str) (qg : Str) (sg : Scope) (g : Addr) (cdg : Value) (s : Shared) (H : Hp) : Cx := (cxOf L2.CX0 X.prog X.w X.K X.mg X.base Ng qg sg g cdg X.A X.stack s H L2.E0).nox
/-- a(arg), in the def that got the lambda -/
theorem act1 {Ng : List Str} {qg : Str} {sg : Scope} {g f c' : Addr} {cdg pm ctv : Value} {params : Arguments} {body arg : Expr} {lev i : Nat} {a : Str} {ta : TE} {p1 p2 : Pos} {fb : Gm → Pl → Re} {Γc : Gm} {Ls : List (Addr × HO)} {tt : List (Addr × Str)}
    (I : Inv X pins σ H s) (L : Lam1 X.env.scope scope X.N caps y) (hf : s.heap.get? f = some (PySem.W.kla_obj "<lambda>" (X.env.qual ++ "<lambda>") params body scope (cloFrom X.env.cells scope.names []) pm c' ctv)) (hfn : H f = none) (hfr : f ∉ frs X.stack)
    (hbind : ∀ u, bindArgs (PySem.W.kla_fn "<lambda>" (X.env.qual ++ "<lambda>") params body scope (cloFrom X.env.cells scope.names []) pm (.ref c') ctv) ⟨[u], []⟩ = pure [(y, u)])
    (gd : X.A.guards = some []) (hr : Room (lev + 1) (X.A.deeper (envOfC qg sg s.heap.objs.size g cdg)))
    (hbody : ∀ (A : Around) (outer : List Env) (s : Shared) (H : Hp), A.guards = some [] → Room lev (A.deeper (LamX.lamEnv X scope s.heap.objs.size f c')) → PE (lam1Cx X caps y A outer s H scope f c').nox body (lE (gl X) { tt := tt } fb))
    (hcd : ∀ (j : Nat) (s : Sl), Γc[j]? = some (some s) → ∃ d, s = .d d) (hcl : Γc.length = caps.length)
    (hcap : ∀ M H', Sup M H' Ls → ∀ (j : Nat) (d : PyData), Γc[j]? = some (some (.d d)) → ∃ v, (caps.map fun i => (σ[i]?).join)[j]? = some (some v) ∧ At (gl X) M H' v d)
    (hN : Ng[i]? = some a) (hv : Vis sg a) (hd : (a == ("__debug__" : Str)) = false) (hdc : (a == ("__classdict__" : Str)) = false) (pl : plainE arg = true) (ha : PE (gotCx X Ng qg sg g cdg s H) arg ta) :
    PE (gotCx X Ng qg sg g cdg s H) (.Call (.Name a p1) [arg] [] p2)
      (fun σZ HZ Q => σZ[i]? = some (some (.ref f)) ∧ ta σZ HZ fun x H1 => rLf (gl X) ((c', LamX.CodeO c' (X.env.qual ++ "<lambda>")) :: Ls) (fun d => (fb (some (.d d) :: Γc) []).map (·.1)) x H1 Q) := by
  refine ⟨fun pinsZ sZ σZ HZ Q IZ h => ?_⟩
  obtain ⟨hs, h⟩ := h
  have fn_at : ∀ {s1 : Shared} {σ1 : L2.St} {H1 : Hp}, Inv (gotCx X Ng qg sg g cdg s H) pinsZ σ1 H1 s1 → s1.heap.get? f = some (PySem.W.kla_obj "<lambda>" (X.env.qual ++ "<lambda>") params body scope (cloFrom X.env.cells scope.names []) pm c' ctv) := fun I1 =>
    I1.base.keep f _ hf hfn hfr (fun z => nomatch (show f ∈ ([] : List Addr) from z))
  refine wpAny_Call_Name_kw (thn ((pe_var (pos := p1) (i := i) hN hv hd hdc).run pinsZ sZ σZ HZ (fun v H1 => v = .ref f ∧ H1 = HZ) IZ ⟨.ref f, hs, rfl, rfl⟩) fun u s1 ⟨v, H1, I1, r1, q1⟩ => ?_)
  obtain ⟨ev, eH⟩ := q1
  subst ev
  subst eH
  obtain rfl : u = Value.ref f := r1
  refine PySem.W.callWith_F ⟨_, _, _, _, fn_at I1⟩ (thn ((pa1 ha pl).run p2 pinsZ s1 σZ H1 (fun vs H2 => match vs with
      | [x] => rLf (gl X) ((c', LamX.CodeO c' (X.env.qual ++ "<lambda>")) :: Ls) (fun d => (fb (some (.d d) :: Γc) []).map (·.1)) x H2 Q
      | _ => False) I1 h) fun us s2 ⟨vs, H2, I2, rv, q2⟩ => ⟨⟨_, _, _, _, fn_at I2⟩, ?_⟩) (star_cons pl) rfl
  match vs, rv, q2 with
  | [x], rv, ⟨M, da, d, hkp, tr, hx, hl, hq⟩ =>
    obtain ⟨u, rfl, ru⟩ := Vals.one rv
    obtain ⟨⟨oc, vsc, t, hoc, hdc', hvc⟩, _, _⟩ := I2.hok c' _ (hkp _ List.mem_cons_self).2
    have un : Un (frs X.stack) [] H H2 s.heap s2.heap := I2.base
    have rc : codeAny (model X.prog X.w) (X.A.deeper (envOfC qg sg s.heap.objs.size g cdg)) (.call (.ref f) ⟨[u], []⟩) (CR L2.CX0 (envOfC qg sg s.heap.objs.size g cdg :: X.stack) X.prog X.w H2 s2 Q L2.E0) s2 := by
      refine PySem.W.kla_callFunE hr.depth (fn_at I2) rfl L.co L.gen rfl ⟨c', oc, vsc, t, rfl, hoc, hdc', hvc⟩ ?_
      rw [hbind]
      refine wpAny_pure (wpAny_newFunctionEnv (fun z hz => L.nocell z hz) (fun z hz => ?_) (fun h₁ hns hsb => ⟨I2.nolimit.fresh _ hsb, ?_⟩) L.kind)
      · rw [List.mem_singleton.mp hz]
        exact L.yl
      show codeAny _ _ (.expr body (LamX.lamEnv X scope s2.heap.objs.size f c')) _ _
      have kp : ∀ b o, s2.heap.get? b = some o → h₁.get? b = some o := fun b o e => hsb.extBut b o (Nat.ne_of_lt (Heap.lt_size e)) (Heap.get?_push_of_some _ e)
      obtain ⟨r, e1, e2⟩ := Option.map_eq_some_iff.mp hl
      have J := lam1_start (caps := caps) (f := f) (c' := c') (tk := s2.toks + ([(y, u)] : List (Str × Value)).length) I L I2.env0 hr.hd un ru hns kp
      let W : Wx := { M := M, base := M, pl := none, T := [], F := { tt := tt } }
      have R : Rep (gl X) W H2 (some x :: caps.map fun i => (σ[i]?).join) (some (Sl.d da) :: Γc) [] := by
        have gd : ∀ {j : Nat} {s : Sl}, (some (Sl.d da) :: Γc)[j]? = some (some s) → (j = 0 ∧ s = .d da) ∨ ∃ l z, j = l + 1 ∧ Γc[l]? = some (some (.d z)) ∧ s = .d z := fun {j s} h => by
          cases j with
          | zero => cases h; exact .inl ⟨rfl, rfl⟩
          | succ l =>
            have h : Γc[l]? = some (some s) := by simpa using h
            obtain ⟨z, ez⟩ := hcd l s h
            exact .inr ⟨l, z, rfl, by rw [← ez]; exact h, ez⟩
        refine ⟨tr, fun a h => h, fun a h => h.elim, ?_, fun j z h => ?_, fun j h => ?_, fun j h => ?_, fun p hp => (by cases hp), ⟨fun _ => 0, fun j ⟨s, h, z⟩ => ?_, fun j l ⟨s, h, z⟩ => ?_, fun j xs h => ?_, fun j xs h => ?_⟩, rfl⟩
        · simp [hcl]
        · rcases gd h with ⟨ej, ez⟩ | ⟨l, z', ej, g, ez⟩
          · cases ez
            exact ⟨x, by rw [ej]; rfl, hx⟩
          · cases ez
            obtain ⟨v, g1, g2⟩ := hcap M H2 (fun p hp => hkp p (List.mem_cons_of_mem _ hp)) l _ g
            exact ⟨v, by rw [ej]; simpa using g1, g2⟩
        · rcases gd h with ⟨_, ez⟩ | ⟨_, _, _, _, ez⟩ <;> cases ez
        · rcases gd h with ⟨_, ez⟩ | ⟨_, _, _, _, ez⟩ <;> cases ez
        · rcases gd h with ⟨_, ez⟩ | ⟨_, _, _, _, ez⟩ <;> subst ez <;> cases z
        · rcases gd h with ⟨_, ez⟩ | ⟨_, _, _, _, ez⟩ <;> subst ez <;> cases z
        · rcases gd h with ⟨_, ez⟩ | ⟨_, _, _, _, ez⟩ <;> cases ez
        · rcases gd h with ⟨_, ez⟩ | ⟨_, _, _, _, ez⟩ <;> cases ez
      refine PySem.W.kla_codeExpr (wpAny_mono ((hbody (X.A.deeper (envOfC qg sg s.heap.objs.size g cdg)) (envOfC qg sg s.heap.objs.size g cdg :: X.stack) s2 H2 gd (hr.deeper _)).run [] _ _ H2 Q (J.wish _) ⟨W, _, [], r.1, r.2, rfl, R, e1, fun v H' kp R' a => hq v H' (fun b o e => kp b o (fun z => z) e) (by rw [← e2]; exact a)⟩) (fun v s' hq => ?_) fun e s' hq => False.elim hq)
      obtain ⟨w', H', J', rv', q⟩ := hq
      exact ⟨w', H', J'.os, J'.bare, J'.base, J'.hok, rv', q⟩
    refine wpAny_call (codeAny_mono rc fun r s' hq => ?_)
    match r, hq with
    | .error e, hq => exact False.elim hq
    | .ok (.ret u), hq => exact I2.after hq
    | .ok .next, hq => exact False.elim hq
    | .ok .brk, hq => exact False.elim hq
    | .ok .cont, hq => exact False.elim hq
end
end K26
namespace K26
open PySem PySem.Spec PyProof.Rows L2 PySem.W PySem.SeqAt LamX
section
variable {X : Cx} {pins : List (Addr × Obj)} {σ : L2.St} {H : Hp} {s : Shared}
/-- a lambda is made: what is new of the heap -/
def LamNew (H H1 : Hp) (P c' : Addr) (q : Str) : Prop := H1 = H ∨ ∃ ps : Array Value, H c' = none ∧ H1 = upd (upd H P (.tbl ps)) c' (CodeO c' q)
theorem lam_make1 {T : List (Addr × Str)} {c P : Addr} {params : Arguments} {body : Expr} {scope : Scope} {pos : Pos} {E : Value → Shared → Prop} {Q : Value → Shared → Prop} (I : Inv X pins σ H s) (TB : TabB X.base X.mg c P) (code : X.env.code = .ref c)
    (hm : (P, X.env.qual ++ "<lambda>") ∈ T) (hu : ∀ p ∈ T, p.1 = P → p.2 = X.env.qual ++ "<lambda>") (hT : Tabs T H) (nodef : defaultsOf params X.env = ([], [])) (free : ∀ y ∈ scope.names, y.2 = .free → ∃ c, X.env.cells.lookup y.1 = some c)
    (k : ∀ (f c' : Addr) (pm ctv : Value) (H1 : Hp) (s' : Shared), Inv X pins σ H1 s' → LamNew H H1 P c' (X.env.qual ++ "<lambda>") → Tabs T H1 →
      s'.heap.get? f = some (PySem.W.kla_obj "<lambda>" (X.env.qual ++ "<lambda>") params body scope (cloFrom X.env.cells scope.names []) pm c' ctv) → H1 f = none → f ∉ frs X.stack → H1 c' = some (CodeO c' (X.env.qual ++ "<lambda>")) → Q (.ref f) s') :
    wpAny (model X.prog X.w) X.A (eval (.Lambda params body scope pos) X.env) Q E s := by
  obtain ⟨ps, tab, tr, among⟩ := hT _ hm
  have blt : s.heap.BuiltinsAt X.mg P := TB.bm.keeps I.bk
  have raw : s.heap.get? P = some { cls := .none, data := .fields ps } := I.hok P _ tab
  have fresh : ∀ f, s.heap.objs.size ≤ f → f ∉ frs X.stack := fun f hf z => by
    rcases List.mem_cons.mp (I.stkSub _ z) with e | e
    · subst e
      exact Nat.lt_irrefl _ (Nat.lt_of_lt_of_le I.lt hf)
    · exact I.nofs hf e
  refine PySem.W.kla_eval nodef ?_
  cases told : codeAmong pos ps.toList with
  | some cv =>
    obtain ⟨c', rfl, co⟩ := among pos cv told
    refine PySem.W.kla_makeFunctionHit (mg := X.mg) (c := c) (P := P) (ps := ps) (closure_ok free) I.ok.glob (I.mod.glob.keeps I.bk) code (TB.code.keeps I.bk) raw tr told blt fun ctv h' tk ext le => ?_
    exact k h'.objs.size c' ((X.mg "__name__").getD .none) ctv H _ (I.kept (t' := tk) fun b o e => Heap.get?_push_of_some _ (ext b o e)) (.inl rfl) hT (Heap.get?_push_size _ rfl) (I.hok.fresh le) (fresh _ le) co
  | none =>
    refine PySem.W.kla_makeFunction (mg := X.mg) (c := c) (P := P) (ps := ps) (closure_ok free) I.ok.glob (I.mod.glob.keeps I.bk) code (TB.code.keeps I.bk) raw tr told TB.gP blt fun c' ctv h' tk ext ge lt rec htb => ?_
    obtain ⟨c2, oc, vs, t, e2, get, data, nm⟩ := rec
    cases e2
    have le : s.heap.objs.size ≤ h'.objs.size := Nat.le_trans ge (Nat.le_of_lt lt)
    have new : H c' = none := I.hok.fresh ge
    have J := inv_table (t' := tk) (more := #[rawInt pos.line, rawInt pos.col, .ref c']) (h' := h'.push (PySem.W.kla_obj "<lambda>" (X.env.qual ++ "<lambda>") params body scope (cloFrom X.env.cells scope.names []) ((X.mg "__name__").getD .none) c' ctv)) I tab
      (fun b o nb e => Heap.get?_push_of_some _ (ext b o nb e)) (Heap.get?_push_of_some _ htb) ge ⟨oc, vs, t, Heap.get?_push_of_some _ get, data, nm⟩
    have stays : ∀ b o, H b = some o → (∀ ps, o ≠ .tbl ps) → upd (upd H P (.tbl (ps ++ #[rawInt pos.line, rawInt pos.col, .ref c']))) c' (CodeO c' (X.env.qual ++ "<lambda>")) b = some o := fun b o e n => by
      have h1 : b ≠ c' := ne_of_none e new
      have h2 : b ≠ P := fun z => by
        rw [z, tab] at e
        cases e
        exact n ps rfl
      rw [upd_ne h1, upd_ne h2]
      exact e
    have lst : (ps ++ #[rawInt pos.line, rawInt pos.col, .ref c']).toList = ps.toList ++ [rawInt pos.line, rawInt pos.col, .ref c'] := by simp
    refine k h'.objs.size c' ((X.mg "__name__").getD .none) ctv _ _ J (.inr ⟨_, new, rfl⟩) (fun p hp => ?_) (Heap.get?_push_size _ rfl) ?_ (fresh _ le) upd_same
    · by_cases hb : p.1 = P
      · rw [hu p hp hb, hb]
        refine ⟨_, by rw [upd_ne (ne_of_none tab new), upd_same], by rw [lst]; exact PySem.TriplesOk_snoc _ _ _ _ tr, fun p' cv hcv => ?_⟩
        rw [lst] at hcv
        rcases among_app _ tr hcv with z | z
        · obtain ⟨c0, e1, e2⟩ := among p' cv z
          exact ⟨c0, e1, stays _ _ e2 codeO_ne⟩
        · exact ⟨c', z, upd_same⟩
      · obtain ⟨ps', a1, a2, a3⟩ := hT p hp
        refine ⟨ps', by rw [upd_ne (ne_of_none a1 new), upd_ne hb]; exact a1, a2, fun p' cv hcv => ?_⟩
        obtain ⟨c0, e1, e2⟩ := a3 p' cv hcv
        exact ⟨c0, e1, stays _ _ e2 codeO_ne⟩
    · have n1 : h'.objs.size ≠ c' := Nat.ne_of_gt lt
      have n2 : h'.objs.size ≠ P := Nat.ne_of_gt (Nat.lt_of_lt_of_le (Heap.lt_size raw) le)
      rw [upd_ne n1, upd_ne n2]
      exact I.hok.fresh le
end
end K26
namespace K26
open PySem PySem.Spec PyProof.Rows L2 PySem.W
theorem dicO_ne_code {P : Program} {w : World} {a : Addr} {xs : List (NestedKey × Addr × Value)} {ep : Nat} (n : Str) : dicO P w a xs ep ≠ LamX.CodeO a n := by
  intro e
  unfold dicO LamX.CodeO at e
  have e := HO.ext.inj e
  let o : Obj := { cls := .type "dict", data := .dict (xs.map (entryOfKey (nestedKind P w))).toArray ep }
  let h : Heap := { objs := Array.replicate (a + 1) o }
  have hg : h.get? a = some o := by
    unfold Heap.get?
    simp [h, o]
  have h1 : (fun h : Heap => ∃ o es, h.get? a = some o ∧ o.ExactDict ∧ o.data = .dict es ep ∧ es.toList = xs.map (entryOfKey (nestedKind P w))) h := ⟨o, _, hg, ⟨rfl, rfl, rfl⟩, rfl, by simp⟩
  rw [e] at h1
  obtain ⟨oc, vs, t, g1, g2, g3⟩ := h1
  rw [hg] at g1
  cases g1
  cases g2
/-! ### a code object is no datum -/
section
variable {G : Gl0} {M : Addr → Prop} {H : Hp} {c : Addr} {n : Str}
mutual
theorem At.uncode (hc : H c = some (LamX.CodeO c n)) : ∀ {v : V} {d : PyData}, At G (fun a => M a ∧ a ≠ c) H v d → At G M H v d
  | _, _, .non => .non
  | _, _, .bl b => .bl b
  | _, _, .int i => .int i
  | _, _, .str x => .str x
  | _, _, .lst k h z t => .lst (fun m => k ⟨m, fun e => by rw [e, hc] at h; cases h⟩) h z (AtL.uncode hc t)
  | _, _, .tup h z t => .tup (h.imp (fun q => ⟨fun m => q.1 ⟨m, fun e => by have q2 := q.2; rw [e, hc] at q2; cases q2⟩, q.2⟩) id) z (AtL.uncode hc t)
  | _, _, .dic k s h u z t => .dic (fun m => k ⟨m, fun e => by subst e; rw [hc] at h; exact dicO_ne_code n (Option.some.inj h).symm⟩) s h u z (AtD.uncode hc t)
theorem AtL.uncode (hc : H c = some (LamX.CodeO c n)) : ∀ {vs : List V} {ds : List PyData}, AtL G (fun a => M a ∧ a ≠ c) H vs ds → AtL G M H vs ds
  | _, _, .nil => .nil
  | _, _, .cons a t => .cons (At.uncode hc a) (AtL.uncode hc t)
theorem AtD.uncode (hc : H c = some (LamX.CodeO c n)) : ∀ {xs : List (NestedKey × Addr × Value)} {kvs : List (PyData × PyData)}, AtD G (fun a => M a ∧ a ≠ c) H xs kvs → AtD G M H xs kvs
  | _, _, .nil => .nil
  | _, _, .cons k n8 r v t => .cons (At.uncode hc k) n8 r (At.uncode hc v) (AtD.uncode hc t)
end
end
end K26
namespace K26
open PySem PySem.Spec PyProof.Rows L2 PySem.W PySem.SeqAt LamX

/-! ### _law_settled(lambda y: body) -/
/-- what is captured rests on a list of objects -/
theorem caps_sup {G : Gl0} {W : Wx} {H : Hp} {σ : L2.St} {Γ : Gm} {S : Pl} (R : Rep G W H σ Γ S) : ∀ caps : List Nat, ∃ Ls, Sup W.M H Ls ∧ ∀ M H', Sup M H' Ls → ∀ (j : Nat) (d : PyData), (caps.map fun i => capD (Γ[i]?).join)[j]? = some (some (.d d)) →
    ∃ v, (caps.map fun i => (σ[i]?).join)[j]? = some (some v) ∧ At G M H' v d
  | [] => ⟨[], .nil, fun M H' s j d h => by simp at h⟩
  | i :: caps => by
    obtain ⟨Ls, h1, h2⟩ := caps_sup R caps
    have keep : (∀ x, Γ[i]? ≠ some (some (.d x))) → ∃ Ls, Sup W.M H Ls ∧ ∀ M H', Sup M H' Ls → ∀ (j : Nat) (d : PyData), ((i :: caps).map fun i => capD (Γ[i]?).join)[j]? = some (some (.d d)) →
        ∃ v, ((i :: caps).map fun i => (σ[i]?).join)[j]? = some (some v) ∧ At G M H' v d := fun hne => by
      refine ⟨Ls, h1, fun M H' s j d h => ?_⟩
      cases j with
      | zero =>
        exfalso
        simp only [List.map_cons, List.getElem?_cons_zero, Option.some.injEq] at h
        cases e : Γ[i]? with
        | none => rw [e] at h; cases h
        | some o =>
          cases o with
          | none => rw [e] at h; cases h
          | some z =>
            rw [e] at h
            cases z with
            | d x => exact hne x e
            | _ => cases h
      | succ j =>
        simp only [List.map_cons, List.getElem?_cons_succ] at h ⊢
        exact h2 M H' s j d h
    cases e : Γ[i]? with
    | none => exact keep fun x z => by rw [e] at z; cases z
    | some o =>
      cases o with
      | none => exact keep fun x z => by rw [e] at z; cases z
      | some z =>
        cases z with
        | d x =>
          obtain ⟨v, hv, av⟩ := R.dat i x e
          obtain ⟨L1, h3, h4⟩ := av.sup
          refine ⟨L1 ++ Ls, h3.app h1, fun M H' s j d h => ?_⟩
          cases j with
          | zero =>
            simp only [List.map_cons, List.getElem?_cons_zero, Option.some.injEq, e] at h ⊢
            cases h
            exact ⟨v, by rw [hv]; rfl, h4 M H' s.l⟩
          | succ j =>
            simp only [List.map_cons, List.getElem?_cons_succ] at h ⊢
            exact h2 M H' s.r j d h
        | _ => exact keep fun x z => by rw [e] at z; cases z
theorem caps_d {Γ : Gm} {caps : List Nat} (j : Nat) (s : Sl) (h : (caps.map fun i => capD (Γ[i]?).join)[j]? = some (some s)) : ∃ d, s = .d d := by
  rw [List.getElem?_map] at h
  cases e : caps[j]? with
  | none => rw [e] at h; cases h
  | some i =>
    rw [e] at h
    simp only [Option.map_some, Option.some.injEq] at h
    cases e2 : (Γ[i]?).join with
    | none => rw [e2] at h; cases h
    | some z =>
      rw [e2] at h
      cases z with
      | d x => cases h; exact ⟨x, rfl⟩
      | _ => cases h
/-- the lambda's context knows what a def's knows -/
theorem lam_ok0 {X : Cx} {caps : List Nat} {y : Str} {A : Around} {outer : List Env} {s : Shared} {H : Hp} {scope : Scope} {f c' : Addr} {k : Ck} {c : Cf} {tt : List (Addr × Str)} {lev : Nat} (hN : X.N = k.N) (Lm : Lam1 X.env.scope scope X.N caps y) (L : Lv X.prog X.w X.K X.mg X.base c tt lev)
    (gd : A.guards = some []) (rm : Room lev (A.deeper (LamX.lamEnv X scope s.heap.objs.size f c'))) : Ok0 (lam1Cx X caps y A outer s H scope f c').nox (k.lamK caps y scope) c { tt := tt } lev where
  gd := gd
  calm := rfl
  blt := L.blt
  N := by
    show (y :: caps.map fun i => ((X.N[i]?).getD ("" : Str))) = y :: caps.map fun i => ((k.N[i]?).getD ("" : Str))
    rw [hN]
  nd := Lm.nd
  sc := rfl
  top := fun h => by cases h
  xe := rfl
  rm := rm
  mgG := L.mgG
  fns := L.fns
  pfs := L.pfs
  lf := fun h => by cases h
theorem lamNew_keep {H H1 : Hp} {P0 c' : Addr} {q : Str} {ps : Array Value} (n : LamNew H H1 P0 c' q) (hP : H P0 = some (.tbl ps)) : (∀ a o, a ≠ P0 → H a = some o → H1 a = some o) ∧ ∀ a, (∃ o, H a = some o) → ∃ o, H1 a = some o := by
  rcases n with rfl | ⟨ps', hc, rfl⟩
  · exact ⟨fun _ _ _ h => h, fun _ h => h⟩
  · have main : ∀ a o, a ≠ P0 → H a = some o → (upd (upd H P0 (.tbl ps')) c' (CodeO c' q)) a = some o := fun a o ha h => by
      have h1 : a ≠ c' := ne_of_none h hc
      rw [upd_ne h1, upd_ne ha]
      exact h
    refine ⟨main, fun a ⟨o, h⟩ => ?_⟩
    by_cases e : a = P0
    · have h1 : a ≠ c' := ne_of_none h hc
      rw [upd_ne h1, e, upd_same]
      exact ⟨_, rfl⟩
    · exact ⟨o, main a o e h⟩
end K26
namespace K26
open PySem PySem.Spec PyProof.Rows L2 PySem.W PySem.SeqAt LamX

theorem bind_one (y : Str) (py : Pos) (n q : Str) (body : Expr) (sc : Scope) (cl : List (Str × Addr)) (pm cv ctv u : Value) : bindArgs (PySem.W.kla_fn n q ⟨[], [⟨y, none, py⟩], none, [], [], none, []⟩ body sc cl pm cv ctv) ⟨[u], []⟩ = pure [(y, u)] := by
  unfold bindArgs
  have hs : seqItems? Value.none = (pure none : Sem _) := rfl
  simp [PySem.W.kla_fn, hs]
theorem settle_pe {X : Cx} {k : Ck} {F : Fx} {m lev : Nat} {caps : List Nat} {b : Tm} {y : Str} {args : Arguments} {body : Expr} {sc : Scope} {lpos p pos : Pos} {st : Stmt} {g : Addr} {fd : FuncData} {cc P0 : Addr}
    (hN : X.N = k.N) (hsc : X.env.scope = k.sc) (gd : X.A.guards = some []) (rm : Room (4 * (m + 1) + 3) X.A) (hg : Gl X "_law_settled") (hD : DefH X.K X.mg d_law_settled st g fd)
    (Lm : Lv X.prog X.w X.K X.mg X.base (cfN m) F.tt (4 * m)) (Ln : Lv X.prog X.w X.K X.mg X.base (cfN (m + 1)) F.tt (4 * (m + 1)))
    (TB : TabB X.base X.mg cc P0) (hcode : X.env.code = .ref cc) (hmT : (P0, X.env.qual ++ "<lambda>") ∈ F.tt) (hu : ∀ q ∈ F.tt, q.1 = P0 → q.2 = X.env.qual ++ "<lambda>")
    (hy : lamPar args = some y) (hlb : lamB k caps y sc = true)
    (hbody : ∀ X' lev', Ok0 X' (k.lamK caps y sc) (cfN (m + 1)) { tt := F.tt } lev' → PE X' body (lE (gl X') { tt := F.tt } (evE (cfN (m + 1)) b))) :
    PE X (.Call (.Name "_law_settled" p) [.Lambda args body sc lpos] [] pos) (lE (gl X) F (evE (cfN (m + 1)) (.settle caps b))) := by
  refine ⟨fun pins s σ H Q I h => ?_⟩
  obtain ⟨W, Γ, S, d, S', hF, R, e, kq⟩ := h
  have L1 : Lam1 X.env.scope sc X.N caps y := by rw [hsc, hN]; exact lam1_of hlb
  -- the plain run
  have e : (match Γ[(0 : Nat)]? with
    | some (some .pool) => ((cfN (m + 1)).st).bind fun st => (st fun x => (evE (cfN (m + 1)) b (some (.d x) :: caps.map fun i => capD (Γ[i]?).join) []).map (·.1)).map fun d => (d, S)
    | _ => none) = some (d, S') := e
  have h0 : Γ[(0 : Nat)]? = some (some .pool) := by
    split at e
    · assumption
    · cases e
  rw [h0] at e
  simp only at e
  obtain ⟨gfn, hgfn⟩ : ∃ gfn : PyData → Option PyData, gfn = fun x => (evE (cfN (m + 1)) b (some (.d x) :: caps.map fun i => capD (Γ[i]?).join) []).map (·.1) := ⟨_, rfl⟩
  rw [← hgfn] at e
  have e : (((d_law_settled.run { cfN m with lf := some gfn } [some .fn] []).map (·.1)).map fun d => (d, S)) = some (d, S') := e
  obtain ⟨d0, e1, e2⟩ := Option.map_eq_some_iff.mp e
  cases e2
  obtain ⟨r, e3, er⟩ := Option.map_eq_some_iff.mp e1
  obtain ⟨out, e4, e5⟩ := Option.bind_eq_some_iff.mp e3
  -- the pool and the tables
  obtain ⟨pl, hpl, hσ0⟩ := R.pol 0 h0
  have po : PoolOk (gl X) W H S pl := by
    have q := R.pool
    unfold PoolAt at q
    rw [hpl] at q
    exact q
  have hWT : W.T = F.tt := by rw [po.tt, hF]
  have hT : Tabs F.tt H := hWT ▸ po.tabs
  obtain ⟨ps0, hP0, _⟩ := hT _ hmT
  have hP0C : W.C P0 := by
    unfold Wx.C
    rw [hpl]
    exact .inr ⟨_, hWT ▸ hmT, rfl⟩
  have hP0M : W.M P0 := R.cm _ hP0C
  -- the lambda's parameter
  obtain ⟨py, hargs⟩ : ∃ py, args = ⟨[], [⟨y, none, py⟩], none, [], [], none, []⟩ := by
    unfold lamPar at hy
    split at hy
    · rename_i y' py
      cases hy
      exact ⟨py, rfl⟩
    · cases hy
  have hdef : defaultsOf args X.env = ([], []) := by rw [hargs]; rfl
  have hbind : ∀ (q : Str) (cl : List (Str × Addr)) (pm cv ctv u : Value), bindArgs (PySem.W.kla_fn "<lambda>" q args body sc cl pm cv ctv) ⟨[u], []⟩ = pure [(y, u)] := by
    intro q cl pm cv ctv u
    rw [hargs]
    exact bind_one y py _ q body sc cl pm cv ctv u
  obtain ⟨Ls, hLs, hcap⟩ := caps_sup R caps
  -- the call
  refine wpAny_Call_Name_kw (ld_glob I hg hD.mg ?_ (by decide))
  refine PySem.W.callWith_K (h₀ := X.base) I.ok.mod.kin hD.fn.kp ?_ (by rfl) (by rfl)
  show wpAny _ _ (spliced ((false, eval (.Lambda args body sc lpos) X.env) :: backTo pos (starEach [] X.env))) _ _ s
  refine Calls.spliced_cons (lam_make1 I TB hcode hmT hu hT hdef (L1.has I.ok) fun f c' pm ctv H1 s' I1 hnew T1 hf hfn hfr hco => ?_)
  refine Calls.spliced_nil ⟨I1.kIn, ?_⟩
  obtain ⟨hk1, hk2⟩ := lamNew_keep hnew hP0
  have hCM : ∀ a, ¬ W.M a → a ≠ P0 := fun a hn e => hn (e ▸ hP0M)
  obtain ⟨oc, od, kV, doc, pm', an, cdv, ct, osl, rfl, lk, hcd⟩ := hD.fn.ex
  let F' : Fx := { fa := some f, kp := (c', CodeO c' (X.env.qual ++ "<lambda>")) :: Ls, tt := F.tt }
  let W2 : Wx := { M := fun a => W.M a ∧ a ≠ c', base := fun a => W.M a ∧ a ≠ c', pl := none, T := [], F := F' }
  have rc : codeAny (model X.prog X.w) X.A (.call (.ref g) ⟨[.ref f], []⟩) (CR L2.CX0 X.stack X.prog X.w H1 s' Q L2.E0) s' := by
    refine run_ofS (N := d_law_settled.N) (ps := d_law_settled.N.take d_law_settled.np) (us := [.ref f]) (vs := [.ref f]) (k := 4 * (m + 1) + 2) lk hcd hD.sc rm I1.env0 ?_ (.cons rfl .nil) rfl fun hr' => ?_
    · have := hD.bnd s' [.ref f] I1.kIn rfl
      simpa using this
    have o' := (Lv.ok0L (P := X.prog) (w := X.w) (K := X.K) (mg := X.mg) (base := X.base) (c := { cfN m with lf := some gfn }) (F := F') (lev := 4 * m) (N := d_law_settled.N) (ps := d_law_settled.N.take d_law_settled.np) (qual := "_law_settled") (sc := L2.defScope st) (f := g) (cd := cdv) (A := X.A) (outer := X.stack) (s := s') (H := H1)
      ⟨Lm.blt, Lm.mgG, Lm.fns, Lm.pfs⟩ false hD.sc gd (hr'.mono (by omega)) (fun l hl i a arg ta p1 p2 hvis hpla ha => by
        have hl : gfn = l := Option.some.inj hl
        subst hl
        have hvis : (decide (d_law_settled.N[i]? = some a) && (decide ((L2.defScope st).names.lookup a = some .local) || decide ((L2.defScope st).names.lookup a = some .cell) || decide ((L2.defScope st).names.lookup a = some .free)) && !(a == ("__debug__" : Str)) && !(a == ("__classdict__" : Str))) = true := hvis
        simp only [Bool.and_eq_true, Bool.or_eq_true, decide_eq_true_eq, Bool.not_eq_true'] at hvis
        obtain ⟨⟨⟨hv1, hv2⟩, hv3⟩, hv4⟩ := hvis
        have hv2 : Vis (L2.defScope st) a := by
          rcases hv2 with (h | h) | h
          · exact .inl h
          · exact .inr (.inl h)
          · exact .inr (.inr h)
        have act := act1 (X := X) (lev := 4 * (m + 1)) (fb := evE (cfN (m + 1)) b) (Γc := caps.map fun i => capD (Γ[i]?).join) (Ls := Ls) (tt := F.tt) (p1 := p1) (p2 := p2) I1 L1 hf hfn hfr (fun u => hbind _ _ _ _ _ u) gd (hr'.mono (by omega)) (fun A outer s H g1 g2 => hbody _ _ (lam_ok0 hN L1 Ln g1 g2)) caps_d (by simp) hcap hv1 hv2 hv3 hv4 hpla ha
        refine peW act fun σ H Q q => ?_
        obtain ⟨⟨fa, q1, q2⟩, q3⟩ := q
        cases q1
        rw [hgfn] at q3
        exact ⟨q2, q3⟩)).okx rfl
    refine ⟨_, (sSs d_law_settled.body _ _ _ F' _ o' _ (by
      have := hD.chk
      have hnm : decide (d_law_settled.nm = ("_law_claims" : Str)) = false := by decide
      rw [hnm] at this
      exact this)).nox, ?_⟩
    refine ⟨W2, _, [], out, rfl, ?_, e4, ?_⟩
    · refine ⟨fun a h => hk2 a (R.trk a h.1), fun a h => h, fun a h => h.elim, ?_, fun i x h => ?_, fun i h => ?_, fun i h => ?_, fun q hq => ?_, ⟨fun _ => 0, fun i ⟨s, h, z⟩ => ?_, fun i j ⟨s, h, z⟩ => ?_, fun i xs h => ?_, fun i xs h => ?_⟩, rfl⟩
      · rfl
      · cases i with
        | zero => cases h
        | succ i => exact absurd h (by rw [List.getElem?_append_right (by simp), List.getElem?_replicate]; split <;> simp)
      · cases i with
        | zero => cases h
        | succ i => exact absurd h (by rw [List.getElem?_append_right (by simp), List.getElem?_replicate]; split <;> simp)
      · cases i with
        | zero => exact ⟨f, rfl, rfl⟩
        | succ i => exact absurd h (by rw [List.getElem?_append_right (by simp), List.getElem?_replicate]; split <;> simp)
      · rcases List.mem_cons.mp hq with rfl | hq
        · exact ⟨fun z => z.2 rfl, hco⟩
        · obtain ⟨q1, q2⟩ := hLs q hq
          exact ⟨fun z => q1 z.1, hk1 _ _ (hCM _ q1) q2⟩
      · cases i with
        | zero => cases h; cases z
        | succ i => exact absurd h (by rw [List.getElem?_append_right (by simp), List.getElem?_replicate]; split <;> simp)
      · cases i with
        | zero => cases h; cases z
        | succ i => exact absurd h (by rw [List.getElem?_append_right (by simp), List.getElem?_replicate]; split <;> simp)
      · cases i with
        | zero => cases h
        | succ i => exact absurd h (by rw [List.getElem?_append_right (by simp), List.getElem?_replicate]; split <;> simp)
      · cases i with
        | zero => cases h
        | succ i => exact absurd h (by rw [List.getElem?_append_right (by simp), List.getElem?_replicate]; split <;> simp)
    · have sm : ∀ W' H', Ext W2 W' H1 H' → Same H1 H' := fun W' H' x a o h => x.kp a o (fun z => z) (Classical.em (W2.M a)) h
      have fin : ∀ (W' : Wx) (H' : Hp) (v : V) (d : PyData), Ext W2 W' H1 H' → (∀ a, W'.base a → W'.M a) → At (gl X) W'.M H' v d → r.1 = d → r.2 = ([] : Pl) ∨ True → Q v H' := fun W' H' v d x bs av hd _ => by
        have s1 := sm W' H' x
        have kp : Keep W H H' := fun a o hn h => by
          by_cases hm : W.M a
          · have hp0 : a ≠ P0 := fun z => hn (z ▸ hP0C)
            exact s1 a o (hk1 a o hp0 h)
          · exact s1 a o (hk1 a o (hCM a hm) h)
        have hcode : H' c' = some (CodeO c' (X.env.qual ++ "<lambda>")) := s1 _ _ hco
        have a2 : At (gl X) W2.M H' v d := av.fut (.less fun a h => bs a (by rw [x.base]; exact h))
        have a3 : At (gl X) W.M H' v d := At.uncode hcode a2
        refine kq v H' kp (R.keep kp ?_) (by rw [← er, hd]; exact a3)
        unfold PoolAt
        rw [hpl]
        obtain ⟨vs, z1, z2⟩ := po.at_
        have hpP : pl ≠ P0 := fun z => by
          rw [z, hP0] at z1
          cases z1
        exact ⟨po.base, by rw [hWT]; exact T1.ext s1, po.tb, ⟨vs, s1 _ _ (hk1 _ _ hpP z1), z2.fut (kp.fut R)⟩, po.z, po.tt⟩
      cases out with
      | nx Γ1 S1 =>
        cases e5
        exact fun W' σ' H' x R' => fin W' H' .non .none x R'.sub .non rfl (.inr trivial)
      | bk Γ1 S1 => cases e5
      | rt d' S1 =>
        cases e5
        exact fun v W' H' x tr' bs q av => fin W' H' v d' x bs av rfl (.inr trivial)
  refine wpAny_call (codeAny_mono rc fun r s2 hq => ?_)
  match r, hq with
  | .error e, hq => exact False.elim hq
  | .ok (.ret u), hq => exact I1.after hq
  | .ok .next, hq => exact False.elim hq
  | .ok .brk, hq => exact False.elim hq
  | .ok .cont, hq => exact False.elim hq
end K26
namespace K26
open PySem PySem.Spec PyProof.Rows L2 PySem.W PySem.SeqAt

/-! ### accepts -/
/-- what is known of JUDGES -/
structure JH (K : PySem.W.Frag) (w : World) (mg : Str → Option Value) (dJ : Addr) : Prop where
  at_ : mg "JUDGES" = some (.ref dJ)
  dict : ∃ es n, KDict K w dJ es n
  hit : ∀ x j many, judges.lookup x = some (j, many) → ∃ (t fa : Addr) (nm : Str), fnm j = some nm ∧ mg nm = some (.ref fa) ∧ KDct K w dJ x (.ref t) ∧ KTup K t [.ref fa, .int ((many : Nat) : Int)]
  miss : ∀ x, judges.lookup x = none → PySem.W.nsIn K dJ x = some none
section
variable {M : Model} {A : Around} {E : Value → Shared → Prop} {s : Shared}
theorem args_two {f : Value} {z : Sem Value} {y : Bool × Sem Value} {r : List (Bool × Sem Value)} {Q : Args → Shared → Prop}
    (hs : wpAny M A (spliced ((true, z) :: y :: r)) (fun us t => Q ⟨us, []⟩ t) E s) : wpAny M A (evalArgs f true ((true, z) :: y :: r) []) Q E s := by
  unfold evalArgs
  show wpAny M A (spliced ((true, z) :: y :: r) >>= _) Q E s
  refine wpAny_bind (wpAny_mono hs (fun us t ht => wpAny_holding ?_) fun _ _ e => e)
  exact wpAny_bind (wpAny_pure (wpAny_bind (wpAny_pure (wpAny_pure ht))))
/-- f(*e, ..), more behind it -/
theorem callWith_S3 {K : PySem.W.Frag} {env : Env} {pos p : Pos} {f : Value} {Q : Value → Shared → Prop} {e e2 : Expr} {rest : List Expr} (hk : PySem.W.keepIn K f = true)
    (h1 : starEach (.Starred e p :: e2 :: rest) env = (true, eval e env) :: (false, eval e2 env) :: starEach rest env)
    (h : wpAny M A (spliced (backTo pos (starEach (.Starred e p :: e2 :: rest) env))) (fun vs s₁ => K.In s₁.heap ∧ wpAny M A (call f ([] ++ vs)) Q E s₁) E s) :
    wpAny M A (callWith pos f [] (backTo pos (starEach (.Starred e p :: e2 :: rest) env)) []) Q E s := by
  rw [h1] at h ⊢
  exact PySem.W.ks_call rfl (PySem.W.keeps_K hk) (args_two h)
end
section
variable {X : Cx} {k : Nat} {f : Addr} {fd : FuncData} {ps : List Str} {sp : Sg}
/-- judge(*parts, c): judge a local name that holds a def -/
theorem judge_pe {t2 : TE} {x : Str} {i : Nat} {e e2 : Expr} {p pos sp' : Pos} {te : TE} (hN : X.N[i]? = some x) (hv : Vis X.env.scope x) (hd : (x == ("__debug__" : Str)) = false) (hdc : (x == ("__classdict__" : Str)) = false)
    (he : PE X e te) (he2 : PE X e2 t2) (hs2 : starEach [e2] X.env = (false, eval e2 X.env) :: starEach [] X.env) :
    PE X (.Call (.Name x p) [.Starred e sp', e2] [] pos) (fun σ H Q => ∃ (f : Addr) (r : List V → Hp → VK → Prop), σ[i]? = some (some (.ref f)) ∧ CallR X (.ref f) r ∧ keepIn X.K (.ref f) = true ∧ StX.tStar X.K te (tCons t2 tNil) σ H fun vs H1 => r vs H1 Q) := by
  refine ⟨fun pins s σ H Q I h => ?_⟩
  obtain ⟨f, r, hs, hc, hk, h⟩ := h
  refine wpAny_Call_Name_kw (thn ((pe_var (pos := p) (i := i) hN hv hd hdc).run pins s σ H (fun v H1 => v = .ref f ∧ H1 = H) I ⟨.ref f, hs, rfl, rfl⟩) fun u s1 ⟨v, H1, I1, r1, q1⟩ => ?_)
  obtain ⟨ev, eH⟩ := q1
  subst ev
  subst eH
  obtain rfl : u = Value.ref f := r1
  have h2 : starEach [.Starred e sp', e2] X.env = (true, eval e X.env) :: starEach [e2] X.env := by rfl
  show wpAny _ _ (callWith pos (Value.ref f) [] (backTo pos (starEach [.Starred e sp', e2] X.env)) []) _ _ _
  refine callWith_S3 hk (by rw [h2, hs2]) (thn ((StX.pa_star (p := sp') he (pa_cons he2 pa_nil hs2)).run pos pins s1 σ H1 _ I1 h) fun us s2 ⟨vs, H2, I2, rv, q⟩ => ⟨I2.kIn, ?_⟩)
  exact hc pins s2 σ H2 vs us Q I2 rv q
end
end K26
namespace K26
open PySem PySem.Spec PyProof.Rows L2 PySem.W PySem.SeqAt

/-! ### the body of accepts, at any positions -/
def acB (p : Nat → Pos) : List Stmt := [
  .If (.BoolOp .Or [
    .UnaryOp .Not (.Call (.Name "isinstance" (p 0)) [.Name "claim" (p 1), .Name "tuple" (p 2)] [] (p 3)) (p 4),
    .Compare (.Name "claim" (p 5)) [.Eq] [.Tuple [] 0 (p 6)] (p 7),
    .UnaryOp .Not (.Call (.Name "isinstance" (p 8)) [.Subscript (.Name "claim" (p 9)) (.Constant (.int 0) 0 (p 10)) (p 11), .Name "str" (p 12)] [] (p 13)) (p 14),
    .Compare (.Subscript (.Name "claim" (p 15)) (.Constant (.int 0) 0 (p 16)) (p 17)) [.NotIn] [.Name "JUDGES" (p 18)] (p 19)] (p 20))
   [.Return (some (.Constant (.bool false) 0 (p 21))) (p 22)] [] (p 23),
  .Assign [.Tuple [.Name "judge" (p 24), .Name "many" (p 25)] 0 (p 26)] (.Subscript (.Name "JUDGES" (p 27)) (.Subscript (.Name "claim" (p 28)) (.Constant (.int 0) 0 (p 29)) (p 30)) (p 31)) (p 32),
  .Assign [.Name "parts" (p 33)] (.Subscript (.Name "claim" (p 34)) (.Slice (some (.Constant (.int 1) 0 (p 35))) none none (p 36)) (p 37)) (p 38),
  .Return (some (.BoolOp .And [.Compare (.Call (.Name "len" (p 39)) [.Name "claim" (p 40)] [] (p 41)) [.Eq] [.Name "many" (p 42)] (p 43),
    .Call (.Name "judge" (p 44)) [.Starred (.Name "parts" (p 45)) (p 46), .Name "certificate" (p 47)] [] (p 48)] (p 49))) (p 50)]
def acN : List Str := ["claim", "certificate", "judge", "many", "parts"]
def acS : Scope := { kind := .function, names := [("claim", .local), ("certificate", .local), ("judge", .local), ("many", .local), ("parts", .local), ("isinstance", .globalImplicit), ("tuple", .globalImplicit), ("str", .globalImplicit), ("JUDGES", .globalImplicit), ("len", .globalImplicit)], isGenerator := false, isCoroutine := false }
abbrev acK : Ck := ⟨acS, acN, true, false⟩
abbrev a1 : Tm := .not (.isa (.var 0) .tuple)
abbrev a3 : Tm := .not (.isa (.ix (.var 0) (.int 0)) .str)
abbrev a4 : Tm := .ix (.var 0) (.int 0)
abbrev a5 : Tm := .sl (.var 0) (.so (.int 1)) .no
abbrev a6 : Tm := .cmp .Eq (.bi .len (.var 0)) (.var 3)
theorem ac1 (p : Nat → Pos) : chkE a1 acK (.UnaryOp .Not (.Call (.Name "isinstance" (p 0)) [.Name "claim" (p 1), .Name "tuple" (p 2)] [] (p 3)) (p 4)) = true := by rfl
theorem ac3 (p : Nat → Pos) : chkE a3 acK (.UnaryOp .Not (.Call (.Name "isinstance" (p 8)) [.Subscript (.Name "claim" (p 9)) (.Constant (.int 0) 0 (p 10)) (p 11), .Name "str" (p 12)] [] (p 13)) (p 14)) = true := by rfl
theorem ac4 (p q r : Pos) : chkE a4 acK (.Subscript (.Name "claim" p) (.Constant (.int 0) 0 q) r) = true := by rfl
theorem ac5 (p q r t : Pos) : chkE a5 acK (.Subscript (.Name "claim" p) (.Slice (some (.Constant (.int 1) 0 q)) none none r) t) = true := by rfl
theorem ac6 (p q r t z : Pos) : chkE a6 acK (.Compare (.Call (.Name "len" p) [.Name "claim" q] [] r) [.Eq] [.Name "many" t] z) = true := by rfl
theorem ac7 (p : Pos) : chkE (.var 0) acK (.Name "claim" p) = true := by rfl
theorem ac8 (p : Pos) : chkE (.tup .nil) acK (.Tuple [] 0 p) = true := by rfl
theorem ac9 (p : Pos) : chkE (.var 4) acK (.Name "parts" p) = true := by rfl
theorem ac10 (p : Pos) : chkE (.var 1) acK (.Name "certificate" p) = true := by rfl
theorem ac11 (p : Pos) : chkE (.bl false) acK (.Constant (.bool false) 0 p) = true := by rfl
theorem glJ {X : Cx} (h : X.env.scope = acS) : Gl X "JUDGES" := by
  show X.env.scope.names.lookup _ = _
  rw [h]
  rfl

/-! ### a tuple == () -/
def rEqE (K : PySem.W.Frag) : R2 := fun x y H Q => ∃ a b xs, x = .ref a ∧ y = .ref b ∧ SqT K H a xs ∧ SqT K H b [] ∧ Q (.bl xs.isEmpty) H
theorem op_eqE {X : Cx} (hu : X.A.units + 200 < cLine) : OpR X (compareOp .Eq) (rEqE X.K) := by
  intro pins s σ H x y v u Q I rx ry h
  obtain ⟨a, b, xs, rfl, rfl, h1, h2, q⟩ := h
  obtain rfl : v = Value.ref a := rx
  obtain rfl : u = Value.ref b := ry
  obtain ⟨us, r1, t1, _⟩ := I.tuple h1
  obtain ⟨ws, r2, t2, _⟩ := I.tuple h2
  cases r2
  refine PySem.W.eq_tuplesT (n := 0) (e := fun _ => true) t1 t2 (fun j h1 h2 => absurd h2 (by simp)) (by omega) ?_
  refine ⟨.bl xs.isEmpty, H, I, ?_, q⟩
  have := r1.length
  cases xs <;> cases us <;> simp_all <;> rfl
/-- a slot that nothing is told of -/
theorem Rep.dark {G : Gl0} {W : Wx} {H : Hp} {σ : L2.St} {Γ : Gm} {S : Pl} {i : Nat} {v : V} (R : Rep G W H σ Γ S) (h : Γ[i]? = some none) : Rep G W H (σ.set i (some v)) Γ S := by
  have ss : ∀ {j : Nat} {s : Sl}, Γ[j]? = some (some s) → (σ.set i (some v))[j]? = σ[j]? := fun {j s} e => List.getElem?_set_ne (fun z => by
    subst z
    rw [h] at e
    cases e)
  refine ⟨R.trk, R.sub, R.acs, by simpa using R.len, fun j y e => by rw [ss e]; exact R.dat j y e, fun j e => by rw [ss e]; exact R.pol j e, fun j e => by rw [ss e]; exact R.fns j e, R.kept, ?_, R.pool⟩
  obtain ⟨ow, h1, h2, h3, h4⟩ := R.own
  exact ⟨ow, h1, h2, fun j xs e => by rw [ss e]; exact h3 j xs e, fun j xs e => by rw [ss e]; exact h4 j xs e⟩
end K26
namespace K26
open PySem PySem.Spec PyProof.Rows L2 PySem.W PySem.SeqAt
section
variable {X : Cx} {c : Cf} {F : Fx} {lev : Nat} {dJ : Addr}
def rNotJ (X : Cx) (dJ : Addr) : R2 := fun x y H Q => ∃ (z : Str) (r : Option Value), x = .str z ∧ y = .ref dJ ∧ PySem.W.nsIn X.K dJ z = some r ∧ Q (.bl (!r.isSome)) H
def acT (X : Cx) (F : Fx) (c : Cf) (dJ : Addr) : TS :=
  tSeq (tIfS (tOr (lT (gl X) F (tst (evE c a1))) (tOr (tTest (tOp (rEqE X.K) (lE (gl X) F (evE c (.var 0))) (lE (gl X) F (evE c (.tup .nil))))) (tOr (lT (gl X) F (tst (evE c a3))) (tTest (tOp (rNotJ X dJ) (lE (gl X) F (evE c a4)) (tC (.ref dJ)))))))
    (tSeq (tRet (lE (gl X) F (evE c (.bl false)))) tNext) tNext)
  (tSeq (tAsg (tOp (L2.rIxD X.K X.w) (tC (.ref dJ)) (lE (gl X) F (evE c a4))) (gTup X.K 2 (gCons (gName 2) (gCons (gName 3) gNil))))
  (tSeq (tAsg (lE (gl X) F (evE c a5)) (gName 4))
  (tSeq (tRet (tAndV (lE (gl X) F (evE c a6)) (fun σ H Q => ∃ (f : Addr) (r : List V → Hp → VK → Prop), σ[2]? = some (some (.ref f)) ∧ CallR X (.ref f) r ∧ keepIn X.K (.ref f) = true ∧
    StX.tStar X.K (lE (gl X) F (evE c (.var 4))) (tCons (lE (gl X) F (evE c (.var 1))) tNil) σ H fun vs H1 => r vs H1 Q))) tNext)))
theorem acc_pss (o : Okx X acK c F lev) (J : JH X.K X.w X.mg dJ) (p : Nat → Pos) : PSs X (acB p) (acT X F c dJ) := by
  have gJ : Gl X "JUDGES" := glJ o.sc
  obtain ⟨es, n, D⟩ := J.dict
  have pJ : ∀ q, PE X (.Name "JUDGES" q) (tC (.ref dJ)) := fun q => pe_glob gJ J.at_ (by rfl) (by rfl)
  have l2 := loc_of (i := 2) (x := "judge") o.toOk0 (by rfl)
  have l3 := loc_of (i := 3) (x := "many") o.toOk0 (by rfl)
  have l4 := loc_of (i := 4) (x := "parts") o.toOk0 (by rfl)
  have vj : Vis X.env.scope "judge" := .inl (by rw [o.sc]; rfl)
  refine pss_cons (ps_if (PW.pt (pw_or (sE a1 X _ c F lev o _ (ac1 p)).2 (pw_or (pt_cmpR (op_eqE o.toOk0.bx.room) (sE _ X _ c F lev o _ (ac7 _)).1 (sE _ X _ c F lev o _ (ac8 _)).1 (by rfl)) (pw_or (sE a3 X _ c F lev o _ (ac3 p)).2
    (pw_or1 (pt_cmpR (op_notIn_kd D) (sE a4 X _ c F lev o _ (ac4 _ _ _)).1 (pJ _) (by rfl))))))) (pss_cons (ps_ret (sE _ X _ c F lev o _ (ac11 _)).1) pss_nil) pss_nil) ?_
  refine pss_cons (ps_asg (pe_ix ix_kdict (pJ _) (sE a4 X _ c F lev o _ (ac4 _ _ _)).1 (plain_ix (by rfl))) (pg_tup o.calm (pgs_cons (pg_name o.nd l2.1 l2.2.1 l2.2.2) (pgs_cons (pg_name o.nd l3.1 l3.2.1 l3.2.2) pgs_nil)) (by rfl) (by rfl)) (by rfl) (by rfl) (by rfl)) ?_
  refine pss_cons (ps_set o.nd l4.1 l4.2.1 (sE a5 X _ c F lev o _ (ac5 _ _ _ _)).1 (by rfl) l4.2.2) ?_
  refine pss_cons (ps_ret (pe_and (sE a6 X _ c F lev o _ (ac6 _ _ _ _ _)).1 (pe_one (judge_pe l2.1 vj (by rfl) (by rfl) (sE (.var 4) X _ c F lev o _ (ac9 _)).1 (sE (.var 1) X _ c F lev o _ (ac10 _)).1 (star_cons (by rfl)))))) pss_nil
end
end K26
namespace K26
open PySem PySem.Spec PyProof.Rows L2 PySem.W PySem.SeqAt
section
variable {X : Cx} {c : Cf} {lev : Nat} {dJ : Addr}
theorem at0 (x : PyData) (xs : List PyData) : atI (x :: xs) 0 = some x := by
  simp [atI, ixN]
theorem cmp_ii (a b : Int) : cmpD .Eq (.int a) (.int b) = some (decide (a = b)) := by
  have h : (a == b) = decide (a = b) := by by_cases h : a = b <;> simp [h]
  simp [cmpD, PyData.plain, PyData.depth, PyData.eqv, DL, h]
theorem cut1 (x : PyData) (xs : List PyData) : cutD (x :: xs) (some 1) none = xs := by
  simp [cutD, HT.sIx]
theorem ev4 {c : Cf} (x : PyData) (ps : List PyData) (Γ : Gm) (S : Pl) : evE c a4 (some (.d (.tuple (x :: ps))) :: Γ) S = some (x, S) := by
  show Option.map (fun d => (d, S)) (atI (x :: ps) 0) = _
  rw [at0]
  rfl
theorem ev3 {c : Cf} (x : PyData) (ps : List PyData) (Γ : Gm) (S : Pl) : tst (evE c K26.a3) (some (.d (.tuple (x :: ps))) :: Γ) S = some (!isaD x .str, S) := by
  show (((evE c a4 (some (.d (.tuple (x :: ps))) :: Γ) S).bind fun p => some (PyData.bool (isaD p.1 .str), p.2)).bind fun p => (boolD p.1).map fun b => (PyData.bool (!b), p.2)).bind (fun p => (boolD p.1).map fun b => (b, p.2)) = _
  rw [ev4]
  rfl
theorem acT_of {W : Wx} {H : Hp} {σ : L2.St} {claim cert d : PyData} (o : Okx X acK c W.F lev) (J : JH X.K X.w X.mg dJ) (R : Rep (gl X) W H σ [some (.d claim), some (.d cert), none, none, none] []) (e : acceptsD c.fn [claim, cert] = some d)
    (D : Ends) (k : ∀ v H', Keep W H H' → At (gl X) W.M H' v d → D.rt v H') : acT X W.F c dJ D σ H := by
  let Γ : Gm := [some (.d claim), some (.d cert), none, none, none]
  have rf : ∀ (b : L2.St → Hp → Prop) H1, d = .bool false → Keep W H H1 → Rep (gl X) W H1 σ Γ [] → tSeq (tRet (lE (gl X) W.F (evE c (.bl false)))) tNext { D with nx := b } σ H1 := fun b H1 hd k1 R1 => ⟨W, Γ, [], .bool false, [], rfl, R1, by rfl, fun v H2 k2 R2 a2 => k v H2 (k1.trans k2) (by rw [hd]; exact a2)⟩
  by_cases ht : isaD claim .tuple = true
  · obtain ⟨ds, rfl⟩ : ∃ ds, claim = .tuple ds := by cases claim <;> first | (cases ht; done) | exact ⟨_, rfl⟩
    refine ⟨W, Γ, [], false, [], rfl, R, by rfl, fun H1 k1 R1 => ?_⟩
    refine ⟨W, Γ, [], .tuple ds, [], rfl, R1, by rfl, fun v H2 k2 R2 a2 => ⟨W, Γ, [], .tuple [], [], rfl, R2, by rfl, fun u H3 k3 R3 a3 => ?_⟩⟩
    obtain ⟨a, xs, rfl, s1, l1, _⟩ := (a2.fut (k3.fut R2)).tuple
    obtain ⟨b, ys, rfl, s2, l2, _⟩ := a3.tuple
    cases l2
    refine ⟨a, b, xs, rfl, rfl, s1, s2, xs.isEmpty, rfl, ?_⟩
    have k13 := (k1.trans k2).trans k3
    cases ds with
    | nil =>
      cases l1
      cases e
      exact rf _ H3 rfl k13 R3
    | cons x parts =>
      cases l1
      by_cases hs : isaD x .str = true
      · obtain ⟨z, rfl⟩ : ∃ z, x = .str z := by cases x <;> first | (cases hs; done) | exact ⟨_, rfl⟩
        refine ⟨W, Γ, [], false, [], rfl, R3, ev3 _ _ _ _, fun H4 k4 R4 => ?_⟩
        refine ⟨W, Γ, [], .str z, [], rfl, R4, ev4 _ _ _ _, fun v H5 k5 R5 a5 => ?_⟩
        obtain rfl : v = .str z := by cases a5; rfl
        have k15 := (k13.trans k4).trans k5
        have e : (match judges.lookup z with
          | none => some (.bool false)
          | some (j, many) => if parts.length + 1 = many then (c.fn j).bind fun g => g (parts ++ [cert]) else some (.bool false)) = some d := e
        split at e
        · rename_i hj
          cases e
          exact ⟨z, none, rfl, rfl, J.miss z hj, true, rfl, rf _ H5 rfl k15 R5⟩
        · rename_i j many hj
          obtain ⟨t, fa, nm, q1, q2, q3, q4⟩ := J.hit z j many hj
          refine ⟨z, some (.ref t), rfl, rfl, ?_, false, rfl, ?_⟩
          · obtain ⟨_, _, u, _, _, h3, h4⟩ := q3
            obtain rfl : u = Value.ref t := h4
            exact h3
          refine ⟨W, Γ, [], .str z, [], rfl, R5, ev4 _ _ _ _, fun v H6 k6 R6 a6 => ?_⟩
          obtain rfl : v = .str z := by cases a6; rfl
          refine ⟨dJ, z, .ref t, rfl, rfl, q3, t, [.ref fa, .int many], rfl, .inr q4, rfl, ?_⟩
          refine ⟨_, _, rfl, _, _, rfl, rfl, ?_⟩
          have R7 := ((R6.dark (i := 2) (v := .ref fa) rfl).set (i := 3) (v := .int many) (x := .int many) (.int _))
          have hp : cutD (.str z :: parts) (some 1) none = parts := cut1 _ _
          refine ⟨W, _, [], .tuple parts, [], rfl, R7, by rw [← hp]; rfl, fun v8 H8 k8 R8 a8 => ?_⟩
          have R9 := R8.set (i := 4) a8
          have hl : ((biD .len (.tuple (.str z :: parts)))) = some (.int ((parts.length + 1 : Nat) : Int)) := rfl
          refine ⟨W, _, [], .bool (decide (parts.length + 1 = many)), [], rfl, R9, by show Option.map (fun b => (PyData.bool b, ([] : Pl))) (cmpD .Eq (.int ((parts.length + 1 : Nat) : Int)) (.int (many : Int))) = _; rw [cmp_ii, show decide (((parts.length + 1 : Nat) : Int) = (many : Int)) = decide (parts.length + 1 = many) from decide_eq_decide.mpr Int.ofNat_inj]; rfl, fun v9 H9 k9 R9' a9 => ?_⟩
          have kk := ((k15.trans k6).trans k8).trans k9
          refine ⟨decide (parts.length + 1 = many), by cases a9; rfl, ?_⟩
          by_cases hm : parts.length + 1 = many
          · rw [if_pos hm] at e
            obtain ⟨g, hg, e⟩ := Option.bind_eq_some_iff.mp e
            obtain ⟨nm', fa', fd, ps, f1, f2, f3, f4, f5, _⟩ := o.fns j g hg
            have en : nm' = nm := by rw [q1] at f1; cases f1; rfl
            subst en
            have ef : fa' = fa := by rw [q2] at f2; cases f2; rfl
            subst ef
            rw [if_pos (decide_eq_true hm)]
            refine ⟨fa', _, by have := R.len; simp at this; simp [List.getElem?_set, this], FnG.cr f5 o.rm o.gd f4, f3, ?_⟩
            refine ⟨W, _, [], .tuple parts, [], rfl, R9', by rfl, fun v10 H10 k10 R10 a10 => ?_⟩
            obtain ⟨a, xs, rfl, s10, l10, _⟩ := a10.tuple
            refine ⟨a, xs, rfl, .inl s10, ?_⟩
            refine ⟨W, _, [], cert, [], rfl, R10, by rfl, fun v11 H11 k11 R11 a11 => ?_⟩
            refine ⟨W.M, parts ++ [cert], d, R11.trk, ?_, e, fun w H12 s12 a12 => ?_⟩
            · exact l10.fut (k11.fut R10) |>.append (.cons a11 .nil)
            · exact k w H12 (((kk.trans k10).trans k11).trans (.same s12)) a12
          · rw [if_neg hm] at e
            cases e
            rw [if_neg (by simp [hm])]
            exact k _ _ kk (.bl _)
      · have ef : d = .bool false := by cases x <;> first | exact absurd rfl hs | (cases e; rfl)
        refine ⟨W, Γ, [], true, [], rfl, R3, (ev3 _ _ _ _).trans ?_, fun H4 k4 R4 => rf _ H4 ef (k13.trans k4) R4⟩
        rw [Bool.eq_false_iff.mpr hs]
        rfl
  · have ef : d = .bool false := by cases claim <;> first | exact absurd rfl ht | (cases e; rfl)
    refine ⟨W, Γ, [], true, [], rfl, R, ?_, fun H4 k4 R4 => rf _ H4 ef k4 R4⟩
    cases claim <;> first | exact absurd rfl ht | rfl
end
end K26
namespace K26
open PySem PySem.Spec PyProof.Rows L2 PySem.W PySem.SeqAt
section
variable {P : Program} {w : World} {K : PySem.W.Frag} {mg : Str → Option Value} {base : Heap}
theorem acc_len {fn : Nat → Option (List PyData → Option PyData)} {ds : List PyData} {d : PyData} (h : acceptsD fn ds = some d) : ∃ a b, ds = [a, b] := by
  unfold acceptsD at h
  split at h
  · exact ⟨_, _, rfl⟩
  · exact ⟨_, _, rfl⟩
  · cases h
/-- accepts keeps its promise -/
theorem acc_ok {c : Cf} {tt : List (Addr × Str)} {lev : Nat} {x qual : Str} {st : Stmt} {f dJ : Addr} {fd : FuncData} (L : Lv P w K mg base c tt lev) (hl : c.lf = none) (Fn : L2.Fun K x qual st f fd) (S : FnScope acN ["claim", "certificate"] (L2.defScope st))
    (hs : L2.defScope st = acS) (p : Nat → Pos) (hb : L2.defBody st = acB p) (J : JH K w mg dJ) : FnG P w K mg base (lev + 4) f fd ["claim", "certificate"] (pureS ⟨P, w, K⟩ (acceptsD c.fn)) := by
  refine fng_of (k := lev + 3) Fn S (fun vs H Q ⟨M, ds, d, tr, a, e, k⟩ => ?_) fun cdv A outer s H vs Q hcd hfd gd hr ⟨M, ds, d, tr, a, e, k⟩ => ?_
  · obtain ⟨x, y, rfl⟩ := acc_len e
    exact a.length
  · have o0 := (L.mono (show lev ≤ lev + 3 by omega)).ok0 (F := { tt := tt }) (cd := cdv) (outer := outer) (H := H) (qual := qual) (f := f) (s := s) false S gd hr hl
    have ox := o0.okx rfl
    rw [hb]
    rw [hs] at *
    refine ⟨_, acc_pss ox J p, ?_⟩
    obtain ⟨claim, cert, rfl⟩ := acc_len e
    let W : Wx := { M := M, base := M, pl := none, T := [], F := { tt := tt } }
    have R : Rep ⟨P, w, K⟩ W H (L2.start acN vs) [some (.d claim), some (.d cert), none, none, none] [] := by
      have gd : ∀ {i : Nat} {s : Sl}, ([some (.d claim), some (.d cert), none, none, none] : Gm)[i]? = some (some s) → ∃ d, [claim, cert][i]? = some d ∧ s = .d d := fun {i s} h => by
        match i, h with
        | 0, h => cases h; exact ⟨_, rfl, rfl⟩
        | 1, h => cases h; exact ⟨_, rfl, rfl⟩
        | 2, h => cases h
        | 3, h => cases h
        | 4, h => cases h
        | n + 5, h => cases h
      refine ⟨tr, fun a h => h, fun a h => h.elim, ?_, fun i x h => ?_, fun i h => ?_, fun i h => ?_, fun p hp => (by cases hp), ⟨fun _ => 0, fun i ⟨s, h, z⟩ => ?_, fun i j ⟨s, h, z⟩ => ?_, fun i xs h => ?_, fun i xs h => ?_⟩, rfl⟩
      · unfold L2.start
        have := a.length
        simp at this
        simp [acN, this]
      · obtain ⟨d', h1, h2⟩ := gd h
        cases h2
        obtain ⟨v, h3, h4⟩ := a.get h1
        exact ⟨v, start_get h3, h4⟩
      · obtain ⟨d', h1, h2⟩ := gd h; cases h2
      · obtain ⟨d', h1, h2⟩ := gd h; cases h2
      · obtain ⟨d', h1, h2⟩ := gd h; subst h2; cases z
      · obtain ⟨d', h1, h2⟩ := gd h; subst h2; cases z
      · obtain ⟨d', h1, h2⟩ := gd h; cases h2
      · obtain ⟨d', h1, h2⟩ := gd h; cases h2
    exact acT_of (W := W) ox J R e _ fun v H' k1 a1 => k v H' (fun b o h => k1 b o (fun z => z) h) a1
end
end K26
namespace K26
open PySem PySem.Spec PyProof.Rows L2 PySem.W PySem.SeqAt

/-! ### _law_cell: any int may come -/
def celB (p : Nat → Pos) : List Stmt := [
  .If (.Compare (.Name "_law_k" (p 0)) [.Lt] [.Call (.Name "len" (p 1)) [.Name "_law_script" (p 2)] [] (p 3)] (p 4)) [.Return (some (.Subscript (.Name "_law_script" (p 5)) (.Name "_law_k" (p 6)) (p 7))) (p 8)] [] (p 9),
  .Assign [.Name "_law_found" (p 10)] (.BinOp (.Call (.Name "int" (p 11)) [.BinOp (.Constant (.int 71107) 0 (p 12)) .Mult (.BinOp (.BinOp (.BinOp (.Name "_law_k" (p 13)) .Mult (.Name "_law_k" (p 14)) (p 15)) .Add (.BinOp (.Constant (.int 47) 0 (p 16)) .Mult (.Name "_law_k" (p 17)) (p 18)) (p 19)) .Add (.Constant (.int 5) 0 (p 20)) (p 21)) (p 22)] [] (p 23)) .Mod (.Constant (.int 2147483249) 0 (p 24)) (p 25)) (p 26),
  .For (.Name "_law_number" (p 27)) (.Subscript (.Name "_law_script" (p 28)) (.Slice none (some (.Constant (.int 3) 0 (p 29))) none (p 30)) (p 31))
    [.Assign [.Name "_law_found" (p 32)] (.BinOp (.Call (.Name "int" (p 33)) [.BinOp (.BinOp (.Name "_law_found" (p 34)) .Mult (.Constant (.int 43051) 0 (p 35)) (p 36)) .Add (.Name "_law_number" (p 37)) (p 38)] [] (p 39)) .Mod (.Constant (.int 2147483249) 0 (p 40)) (p 41)) (p 42)] [] (p 43),
  .Return (some (.Name "_law_found" (p 44))) (p 45)]
def celN : List Str := ["_law_script", "_law_k", "_law_found", "_law_number"]
def celS : Scope := { kind := .function, names := [("_law_script", .local), ("_law_k", .local), ("_law_found", .local), ("_law_number", .local), ("len", .globalImplicit), ("int", .globalImplicit)], isGenerator := false, isCoroutine := false }
abbrev celK : Ck := ⟨celS, celN, true, false⟩
abbrev c2 : Tm := .bin .Mod (.bi .int (.bin .Mult (.int 71107) (.bin .Add (.bin .Add (.bin .Mult (.var 1) (.var 1)) (.bin .Mult (.int 47) (.var 1))) (.int 5)))) (.int 2147483249)
abbrev c3 : Tm := .bin .Mod (.bi .int (.bin .Add (.bin .Mult (.var 2) (.int 43051)) (.var 3))) (.int 2147483249)
theorem ck1 (p : Pos) : chkE (.var 1) celK (.Name "_law_k" p) = true := by rfl
theorem ck2 (p : Nat → Pos) : chkS (.set 2 c2) celK (.Assign [.Name "_law_found" (p 10)] (.BinOp (.Call (.Name "int" (p 11)) [.BinOp (.Constant (.int 71107) 0 (p 12)) .Mult (.BinOp (.BinOp (.BinOp (.Name "_law_k" (p 13)) .Mult (.Name "_law_k" (p 14)) (p 15)) .Add (.BinOp (.Constant (.int 47) 0 (p 16)) .Mult (.Name "_law_k" (p 17)) (p 18)) (p 19)) .Add (.Constant (.int 5) 0 (p 20)) (p 21)) (p 22)] [] (p 23)) .Mod (.Constant (.int 2147483249) 0 (p 24)) (p 25)) (p 26)) = true := by rfl
theorem ck3 (p : Nat → Pos) : chkSs (.cons (.set 2 c3) .nil) celK [.Assign [.Name "_law_found" (p 32)] (.BinOp (.Call (.Name "int" (p 33)) [.BinOp (.BinOp (.Name "_law_found" (p 34)) .Mult (.Constant (.int 43051) 0 (p 35)) (p 36)) .Add (.Name "_law_number" (p 37)) (p 38)] [] (p 39)) .Mod (.Constant (.int 2147483249) 0 (p 40)) (p 41)) (p 42)] = true := by rfl
theorem ck4 (p : Pos) : chkG (.nm 3) celK (.Name "_law_number" p) = true := by rfl
theorem ck5 (p q : Pos) : chkSs (.cons (.ret (.var 2)) .nil) celK [.Return (some (.Name "_law_found" p)) q] = true := by rfl

/-- the script: slot 0, its address; its object stays -/
structure Scr (K : PySem.W.Frag) (F : Fx) (ns : List Int) : Prop where
  ex : ∃ a, F.fa = some a ∧ ∀ H : Hp, (∀ p ∈ F.kp, H p.1 = some p.2) → SqL K H a (ns.map V.int)
theorem Scr.at {G : Gl0} {W : Wx} {H : Hp} {σ : L2.St} {Γ : Gm} {S : Pl} {i : Nat} {ns : List Int} (sc : Scr G.K W.F ns) (R : Rep G W H σ Γ S) (h : Γ[i]? = some (some .fn)) : ∃ a, σ[i]? = some (some (.ref a)) ∧ SqL G.K H a (ns.map V.int) := by
  obtain ⟨a, h1, h2⟩ := sc.ex
  obtain ⟨f, e1, e2⟩ := R.fns i h
  rw [h1] at e1
  cases e1
  exact ⟨a, e2, h2 H fun p hp => (R.kept p hp).2⟩
def isFn (Γ : Gm) (i : Nat) : Bool := match Γ[i]? with
  | some (some .fn) => true
  | _ => false
theorem isFn_ok {Γ : Gm} {i : Nat} (h : isFn Γ i = true) : Γ[i]? = some (some .fn) := by
  unfold isFn at h
  split at h
  · assumption
  · cases h
def lenF (ns : List Int) : Gm → Pl → Re := fun Γ S => cond (isFn Γ 0) (some (.int ns.length, S)) none
def ixF (ns : List Int) (f : Gm → Pl → Re) : Gm → Pl → Re := fun Γ S => cond (isFn Γ 0) ((f Γ S).bind fun p => (intD p.1).bind fun i => (atI ns i).map fun n => (.int n, p.2)) none
def cutF (ns : List Int) : Gm → Pl → Re := fun Γ S => cond (isFn Γ 0) (some (.list ((ns.take 3).map .int), S)) none
theorem condE {b : Bool} {x : Re} {y : PyData × Pl} (h : cond b x none = some y) : b = true ∧ x = some y := by
  cases b
  · cases h
  · exact ⟨rfl, h⟩
theorem atI_map (ns : List Int) (i : Int) : atI (ns.map V.int) i = (atI ns i).map V.int := by
  unfold atI
  rw [List.length_map]
  cases ixN ns.length i with
  | none => rfl
  | some j => simp
theorem cut3 (xs : List V) : cutV xs none (some 3) = xs.take 3 := by
  unfold cutV
  simp [HT.sIx]
theorem atl_ints {G : Gl0} {M : Addr → Prop} {H : Hp} : ∀ ns : List Int, AtL G M H (ns.map V.int) (ns.map PyData.int)
  | [] => .nil
  | n :: ns => .cons (.int n) (atl_ints ns)
section
variable {X : Cx} {k : Ck} {c : Cf} {F : Fx} {lev : Nat} {ns : List Int}
theorem len_pe (o : Okx X k c F lev) (sc : Scr X.K F ns) (hv : k.vis 0 "_law_script" = true) (hg : k.glb "len" = true) (p q r : Pos) : PE X (.Call (.Name "len" p) [.Name "_law_script" q] [] r) (lE (gl X) F (lenF ns)) := by
  refine peW (pe_callB call_len (o.gl_ hg).1 (o.blt _ (by simp)) boot_len (pa_cons (o.toOk0.var hv q) pa_nil)) fun σ H Q z => ?_
  obtain ⟨W, Γ, S, d, S', hF, R, e, kq⟩ := z
  obtain ⟨h1, h2⟩ := condE e
  cases h2
  subst hF
  obtain ⟨a, e1, e2⟩ := sc.at R (isFn_ok h1)
  exact ⟨_, e1, _, _, rfl, .inl ⟨_, e2, rfl⟩, kq _ H .refl R (by rw [List.length_map]; exact .int _)⟩
theorem ix_pe (o : Okx X k c F lev) (sc : Scr X.K F ns) (hv : k.vis 0 "_law_script" = true) {f : Gm → Pl → Re} {b : Expr} (hb : PE X b (lE (gl X) F f)) (pb : plainE b = true) (p q : Pos) : PE X (.Subscript (.Name "_law_script" p) b q) (lE (gl X) F (ixF ns f)) := by
  refine peW (pe_ix ix_list (o.toOk0.var hv p) hb (plain_ix pb)) fun σ H Q z => ?_
  obtain ⟨W, Γ, S, d, S', hF, R, e, kq⟩ := z
  obtain ⟨h1, h2⟩ := condE e
  obtain ⟨r, g1, g2⟩ := Option.bind_eq_some_iff.mp h2
  obtain ⟨i, g3, g4⟩ := Option.bind_eq_some_iff.mp g2
  obtain ⟨n, g5, g6⟩ := Option.map_eq_some_iff.mp g4
  cases g6
  subst hF
  obtain ⟨a, e1, e2⟩ := sc.at R (isFn_ok h1)
  refine ⟨_, e1, W, Γ, S, r.1, r.2, rfl, R, g1, fun v H1 k1 R1 a1 => ?_⟩
  obtain ⟨a', e1', e2'⟩ := sc.at R1 (isFn_ok h1)
  have ea : a' = a := by rw [e1] at e1'; cases e1'; rfl
  subst ea
  have hr : r.1 = .int i := by
    cases hr : r.1 <;> rw [hr] at g3 <;> cases g3
    rfl
  rw [hr] at a1
  cases a1
  exact ⟨a', _, i, .int n, rfl, rfl, e2', by rw [atI_map, g5]; rfl, kq _ H1 k1 R1 (.int n)⟩
theorem cut_pe (o : Okx X k c F lev) (sc : Scr X.K F ns) (hv : k.vis 0 "_law_script" = true) (p q r t : Pos) : PE X (.Subscript (.Name "_law_script" p) (.Slice none (some (.Constant (.int 3) 0 q)) none r) t) (lE (gl X) F (cutF ns)) := by
  refine peW (pe_slice sl_list (o.toOk0.var hv p) po_none (po_some pe_int)) fun σ H Q z => ?_
  obtain ⟨W, Γ, S, d, S', hF, R, e, kq⟩ := z
  obtain ⟨h1, h2⟩ := condE e
  cases h2
  subst hF
  obtain ⟨a, e1, e2⟩ := sc.at R (isFn_ok h1)
  refine ⟨_, e1, 3, rfl, a, _, rfl, e2, fun p hp => ?_⟩
  have sm : Same H (upd H p (.lst (cutV (ns.map V.int) none (some 3)))) := fun b ob hb => by
    rw [upd_ne (fun z => by rw [z, hp] at hb; cases hb)]
    exact hb
  refine kq _ _ (.same sm) (R.same sm) (.lst (fun hM => ?_) (upd_same ..) ?_ ?_)
  · obtain ⟨ob, hb⟩ := R.trk p hM
    rw [hp] at hb
    cases hb
  · have : sizeLine = 16777216 := by decide
    simp
    omega
  · rw [cut3, ← List.map_take]
    exact atl_ints _
end
end K26
namespace K26
open PySem PySem.Spec PyProof.Rows L2 PySem.W PySem.SeqAt
def andThen (f g : Gm → Pl → Option Out) : Gm → Pl → Option Out := fun Γ S => (f Γ S).bind fun o => o.thn g
def condF (c : Cf) (ns : List Int) : Gm → Pl → Re := fun Γ S => (evE c (.var 1) Γ S).bind fun p => (lenF ns Γ p.2).bind fun q => (cmpD .Lt p.1 q.1).map fun d => (.bool d, q.2)
def retF (f : Gm → Pl → Re) : Gm → Pl → Option Out := fun Γ S => (f Γ S).bind fun p => some (.rt p.1 p.2)
def ifF (c : Gm → Pl → Re) (a b : Gm → Pl → Option Out) : Gm → Pl → Option Out := fun Γ S => (c Γ S).bind fun p => (boolD p.1).bind fun t => cond t (a Γ p.2) (b Γ p.2)
def nxF : Gm → Pl → Option Out := fun Γ S => some (.nx Γ S)
def forF (it : Gm → Pl → Option (List PyData × Pl)) (tg : Tg) (sf : Gm → Pl → Option Out) : Gm → Pl → Option Out := fun Γ S => (it Γ S).bind fun p => forRun (fun x Γ S => (bindG tg x Γ S).bind fun q => sf q.1 q.2) p.1 Γ p.2
def seqF (f : Gm → Pl → Re) : Gm → Pl → Option (List PyData × Pl) := fun Γ S => (f Γ S).bind fun p => (seqD p.1).map fun xs => (xs, p.2)
def celF (c : Cf) (ns : List Int) : Gm → Pl → Option Out :=
  andThen (ifF (condF c ns) (andThen (retF (ixF ns (evE c (.var 1)))) nxF) nxF)
  (andThen (evS c (.set 2 c2)) (andThen (forF (seqF (cutF ns)) (.nm 3) (evSs c (.cons (.set 2 c3) .nil))) (evSs c (.cons (.ret (.var 2)) .nil))))
theorem cel_pss {X : Cx} {c : Cf} {F : Fx} {lev : Nat} {ns : List Int} (o : Okx X celK c F lev) (sc : Scr X.K F ns) (p : Nat → Pos) : PSs X (celB p) (lS (gl X) F (celF c ns)) := by
  have hv : celK.vis 0 "_law_script" = true := by rfl
  have q1 : PT X (.Compare (.Name "_law_k" (p 0)) [.Lt] [.Call (.Name "len" (p 1)) [.Name "_law_script" (p 2)] [] (p 3)] (p 4)) (lT (gl X) F (tst (condF c ns))) :=
    ptW (pt_cmpR (op_cmp .Lt o.toOk0.bx.room) (sE (.var 1) X _ c F lev o _ (ck1 _)).1 (len_pe o sc hv (by rfl) _ _ _) (by rfl)) (tTest_lT lE_cmp)
  have q2 : PSs X [.Return (some (.Subscript (.Name "_law_script" (p 5)) (.Name "_law_k" (p 6)) (p 7))) (p 8)] (lS (gl X) F (andThen (retF (ixF ns (evE c (.var 1)))) nxF)) :=
    pssW (pss_cons (psW (ps_ret (ix_pe o sc hv (sE (.var 1) X _ c F lev o _ (ck1 _)).1 (by rfl) _ _)) lS_ret) (pssW pss_nil lS_nil)) lS_cons
  have q3 : PSs X [] (lS (gl X) F nxF) := pssW pss_nil lS_nil
  refine pssW (pss_cons (psW (ps_if q1 q2 q3) lS_ife) (pssW (pss_cons (sS _ X _ c F lev o _ (ck2 p)) (pssW (pss_cons (psW (ps_for (by rw [o.xe]; exact PassesOwn.never) o.calm
    (piW (pi_seq (cut_pe o sc hv _ _ _ _)) lI_seq) (sndG o.toOk0 (.nm 3) _ (ck4 _)) (sSs _ X _ c F lev o _ (ck3 p)) (no_set (by rfl) X.env)) lS_for) (sSs _ X _ c F lev o _ (ck5 _ _))) lS_cons)) lS_cons)) lS_cons
end K26
set_option maxHeartbeats 0
namespace K26
open PySem PySem.Spec PyProof.Rows L2
abbrev pw : Program := PySem.Challenge.pw_everybill_k26_whole_claims_spoilt_anywhe
def topS (i : Nat) : Stmt := pw.main.body.getD i (.Pass ⟨0, 0, 0, 0⟩)
def dD (i : Nat) (x : Str) : He.DefD := ⟨(x, none), x, x, defArgs (topS i), defBody (topS i), defScope (topS i), [], []⟩
def fnL : List He.DefD := [dD 10 "is_integer", dD 11 "is_within", dD 12 "is_use", dD 13 "are_uses", dD 14 "are_pairs", dD 15 "are_tiers", dD 16 "is_streak", dD 17 "is_form", dD 18 "is_state", dD 19 "uncut", dD 20 "charge", dD 21 "onward", dD 22 "walked", dD 23 "far_use", dD 24 "bends", dD 25 "turns", dD 26 "gap", dD 27 "growth", dD 28 "lead_of", dD 29 "loss_of", dD 30 "is_ascending", dD 31 "known_numbers", dD 32 "near_and_far", dD 33 "is_never_at", dD 34 "is_thrifty_at", dD 35 "is_alike_at", dD 36 "accepts_ahead", dD 37 "accepts_loop", dD 38 "accepts_ray", dD 39 "accepts_never", dD 40 "accepts_apart", dD 41 "accepts_alike", dD 42 "accepts_lost", dD 43 "accepts_losing", dD 44 "accepts_thrifty", dD 45 "row_sum", dD 46 "are_bounds", dD 47 "accepts_cheapest", dD 49 "accepts", dD 51 "_law_cell", dD 52 "_law_pool", dD 53 "_law_draw", dD 54 "_law_wide", dD 55 "_law_coins", dD 56 "_law_price", dD 57 "_law_form", dD 58 "_law_start", dD 59 "_law_use", dD 60 "_law_history", dD 61 "_law_bill", dD 62 "_law_next", dD 63 "_law_walk", dD 64 "_law_begin", dD 65 "_law_first", dD 66 "_law_edges", dD 67 "_law_tries", dD 68 "_law_allowed", dD 69 "_law_gap", dD 70 "_law_steps", dD 71 "_law_loss_steps", dD 72 "_law_settled", dD 73 "_law_rows", dD 74 "_law_same_rows", dD 75 "_law_claims", dD 76 "_law_places", dD 77 "_law_at", dD 78 "_law_with", dD 79 "_law_of_another_kind", dD 80 "_law_right", dD 81 "law"]
def faL : List He.Fa := [.glo "is_integer", .glo "is_within", .glo "is_use", .glo "are_uses", .glo "are_pairs", .glo "are_tiers", .glo "is_streak", .glo "is_form", .glo "is_state", .glo "uncut", .glo "charge", .glo "onward", .glo "walked", .glo "far_use", .glo "bends", .glo "turns", .glo "gap", .glo "growth", .glo "lead_of", .glo "loss_of", .glo "is_ascending", .glo "known_numbers", .glo "near_and_far", .glo "is_never_at", .glo "is_thrifty_at", .glo "is_alike_at", .glo "accepts_ahead", .glo "accepts_loop", .glo "accepts_ray", .glo "accepts_never", .glo "accepts_apart", .glo "accepts_alike", .glo "accepts_lost", .glo "accepts_losing", .glo "accepts_thrifty", .glo "row_sum", .glo "are_bounds", .glo "accepts_cheapest", .glo "accepts", .glo "_law_cell", .glo "_law_pool", .glo "_law_draw", .glo "_law_wide", .glo "_law_coins", .glo "_law_price", .glo "_law_form", .glo "_law_start", .glo "_law_use", .glo "_law_history", .glo "_law_bill", .glo "_law_next", .glo "_law_walk", .glo "_law_begin", .glo "_law_first", .glo "_law_edges", .glo "_law_tries", .glo "_law_allowed", .glo "_law_gap", .glo "_law_steps", .glo "_law_loss_steps", .glo "_law_settled", .glo "_law_rows", .glo "_law_same_rows", .glo "_law_claims", .glo "_law_places", .glo "_law_at", .glo "_law_with", .glo "_law_of_another_kind", .glo "_law_right", .glo "law", .glo "START", .glo "JUDGES", .int "MOST_FEES" 2, .int "MOST_TIERS" 4, .int "MOST_FROM" 12, .int "MOST_INCLUDED" 12, .int "MOST_CARRY" 3, .int "MOST_ROW" 2, .int "MOST_STREAK_USE" 16, .int "MOST_MONEY" 1000000000, .free "abs", .free "all", .free "bool", .free "dict", .free "divmod", .free "enumerate", .free "int", .free "isinstance", .free "len", .free "list", .free "max", .free "min", .free "range", .free "repr", .free "set", .free "sorted", .free "str", .free "tuple", .free "zip"]
def tsL : List He.Tab := [(fun K => He.ga K "JUDGES", ["ahead", "loop", "ray", "never", "apart", "alike", "lost", "losing", "thrifty", "cheapest"])]
def judgeB (K : PySem.W.Frag) (k f : Str) (n : Int) : Bool := match PySem.W.nsIn K (He.ga K "JUDGES") k with
  | some (some (.ref t)) => (match K.lookup t with
    | some ⟨.type c, _, .seq its _, _⟩ => decide (c = "tuple") && He.relAll [.ref (He.ga K f), .int n] its.toList
    | _ => false)
  | _ => false
def exL (K : PySem.W.Frag) : Bool := He.tupB K "START" [.int 0, .int 0, .int 0] && judgeB K "ahead" "accepts_ahead" 5 && judgeB K "loop" "accepts_loop" 5 && judgeB K "ray" "accepts_ray" 5 && judgeB K "never" "accepts_never" 5 && judgeB K "apart" "accepts_apart" 4 && judgeB K "alike" "accepts_alike" 3 && judgeB K "lost" "accepts_lost" 4 && judgeB K "losing" "accepts_losing" 4 && judgeB K "thrifty" "accepts_thrifty" 4 && judgeB K "cheapest" "accepts_cheapest" 5
abbrev tfL : List He.Defn := [("_law_claims", none)]
abbrev hkL : PySem.W.Hook := He.hookX 4 faL fnL tsL tfL exL
def obL (s : PySem.W.SharedT) : He.AlX := He.obsX 4 faL fnL tsL tfL exL (HandSHeadRun.getT s)
theorem obL_eq (s : PySem.W.SharedT) : obL s = hkL.obs s.abs := He.obsX_eq (HandSHeadRun.getT_eq s)
def loose0 : List Str := ["is_integer", "is_within", "is_use", "are_uses", "are_pairs", "are_tiers", "is_streak", "is_form", "is_state", "uncut", "charge", "onward", "walked", "far_use", "bends", "turns", "gap", "growth", "lead_of", "loss_of", "is_ascending", "known_numbers", "near_and_far", "is_never_at", "is_thrifty_at", "is_alike_at", "accepts_ahead", "accepts_loop", "accepts_ray", "accepts_never"]
def loose1 : List Str := ["accepts_apart", "accepts_alike", "accepts_lost", "accepts_losing", "accepts_thrifty", "row_sum", "are_bounds", "accepts_cheapest", "accepts", "_law_cell", "_law_pool", "_law_draw", "_law_wide", "_law_coins", "_law_price", "_law_form", "_law_start", "_law_use", "_law_history", "_law_bill", "_law_next", "_law_walk", "_law_begin", "_law_first", "_law_edges", "_law_tries", "_law_allowed", "_law_gap", "_law_steps", "_law_loss_steps"]
def loose2 : List Str := ["_law_settled", "_law_rows", "_law_same_rows", "_law_claims", "_law_places", "_law_at", "_law_with", "_law_of_another_kind", "_law_right", "MOST_FEES", "MOST_TIERS", "MOST_FROM", "MOST_INCLUDED", "MOST_CARRY", "MOST_ROW", "MOST_STREAK_USE", "MOST_MONEY", "START", "JUDGES"]
def looseL : List Str := loose0 ++ loose1 ++ loose2
abbrev RL : PySem.W.OpenRow := PySem.W.OpenLaw.row PySem.Challenge.rw_everybill_k26_whole_claims_spoilt_anywhe
theorem runL0 (w : World) : HandSHeadRun.RunEq RL (PySem.W.view RL.prog [81]) hkL obL 20000 looseL (w.withFollow "special-get-raises" false) := by
  intro os
  kernel_rfl
theorem runL1 (w : World) : HandSHeadRun.RunEq RL (PySem.W.view RL.prog [81]) hkL obL 20000 looseL (w.withFollow "special-get-raises" true) := by
  intro os
  kernel_rfl
theorem runL (w : World) : HandSHeadRun.RunEq RL (PySem.W.view RL.prog [81]) hkL obL 20000 looseL w :=
  PySem.W.byRow2 "special-get-raises" (P := fun w => HandSHeadRun.RunEq RL (PySem.W.view RL.prog [81]) hkL obL 20000 looseL w) runL0 runL1 w
end K26
namespace K26
open PySem PySem.Spec PyProof.Rows L2 PySem.W PySem.SeqAt

/-! ### the defs: where they stand, what their checks say -/
def topI (f : Nat) : Nat := if f < 38 then f + 10 else if f = 38 then 49 else f + 12
def nmOf (f : Nat) : Str := match fnm f with
  | some x => x
  | none => if f = 39 then "_law_cell" else "law"
theorem fnL_eq : fnL = (List.range 70).map fun f => dD (topI f) (nmOf f) := by kernel_rfl
theorem faL_eq : faL.take 70 = (List.range 70).map fun f => He.Fa.glo (nmOf f) := by kernel_rfl
theorem fn_mem {f : Nat} (h : f < 70) : dD (topI f) (nmOf f) ∈ fnL := by
  rw [fnL_eq]
  exact List.mem_map.mpr ⟨f, List.mem_range.mpr h, rfl⟩
theorem fa_mem {f : Nat} (h : f < 70) : He.Fa.glo (nmOf f) ∈ faL := by
  have z : He.Fa.glo (nmOf f) ∈ faL.take 70 := by
    rw [faL_eq]
    exact List.mem_map.mpr ⟨f, List.mem_range.mpr h, rfl⟩
  exact List.mem_of_mem_take z
def scB (N ps : List Str) (sc : Scope) : Bool := decide (sc.kind = .function) && !sc.isCoroutine && !sc.isGenerator && decide N.Nodup && decide (N.take ps.length = ps) &&
  (ps.all fun x => decide (sc.names.lookup x = some .local) || decide (sc.names.lookup x = some .cell)) && sc.names.all fun y => !decide (y.2 = .free)
theorem scB_ok {N ps : List Str} {sc : Scope} (h : scB N ps sc = true) : FnScope N ps sc := by
  simp only [scB, Bool.and_eq_true, Bool.not_eq_true', decide_eq_true_eq, List.all_eq_true, Bool.or_eq_true, decide_eq_false_iff_not] at h
  obtain ⟨⟨⟨⟨⟨⟨h1, h2⟩, h3⟩, h4⟩, h5⟩, h6⟩, h7⟩ := h
  exact ⟨h1, h2, h3, h4, h5, h6, h7⟩
def defB (D : DefT) (st : Stmt) : Bool := scB D.N (D.N.take D.np) (L2.defScope st) && decide (D.np ≤ D.N.length) && chkSs D.body ⟨L2.defScope st, D.N, true, decide (D.nm = "_law_claims")⟩ (L2.defBody st)
abbrev FD (K : PySem.W.Frag) (i : Nat) (x : Str) (f : Addr) (fd : FuncData) : Prop := FunD K x x (defArgs (topS i)) (defBody (topS i)) (defScope (topS i)) [] [] f fd

theorem db0 : defB d_is_integer (topS 10) = true := by kernel_rfl
theorem bn0 {K : PySem.W.Frag} {a : Addr} {fd : FuncData} (F : FD K 10 "is_integer" a fd) : Binds K fd (d_is_integer.N.take d_is_integer.np) [] := F.bindsN fun _ _ _ _ _ _ us hl => match us, hl with | [_], _ => rfl
theorem db1 : defB d_is_within (topS 11) = true := by kernel_rfl
theorem bn1 {K : PySem.W.Frag} {a : Addr} {fd : FuncData} (F : FD K 11 "is_within" a fd) : Binds K fd (d_is_within.N.take d_is_within.np) [] := F.bindsN fun _ _ _ _ _ _ us hl => match us, hl with | [_, _, _], _ => rfl
theorem db2 : defB d_is_use (topS 12) = true := by kernel_rfl
theorem bn2 {K : PySem.W.Frag} {a : Addr} {fd : FuncData} (F : FD K 12 "is_use" a fd) : Binds K fd (d_is_use.N.take d_is_use.np) [] := F.bindsN fun _ _ _ _ _ _ us hl => match us, hl with | [_], _ => rfl
theorem db3 : defB d_are_uses (topS 13) = true := by kernel_rfl
theorem bn3 {K : PySem.W.Frag} {a : Addr} {fd : FuncData} (F : FD K 13 "are_uses" a fd) : Binds K fd (d_are_uses.N.take d_are_uses.np) [] := F.bindsN fun _ _ _ _ _ _ us hl => match us, hl with | [_], _ => rfl
theorem db4 : defB d_are_pairs (topS 14) = true := by kernel_rfl
theorem bn4 {K : PySem.W.Frag} {a : Addr} {fd : FuncData} (F : FD K 14 "are_pairs" a fd) : Binds K fd (d_are_pairs.N.take d_are_pairs.np) [] := F.bindsN fun _ _ _ _ _ _ us hl => match us, hl with | [_], _ => rfl
theorem db5 : defB d_are_tiers (topS 15) = true := by kernel_rfl
theorem bn5 {K : PySem.W.Frag} {a : Addr} {fd : FuncData} (F : FD K 15 "are_tiers" a fd) : Binds K fd (d_are_tiers.N.take d_are_tiers.np) [] := F.bindsN fun _ _ _ _ _ _ us hl => match us, hl with | [_], _ => rfl
theorem db6 : defB d_is_streak (topS 16) = true := by kernel_rfl
theorem bn6 {K : PySem.W.Frag} {a : Addr} {fd : FuncData} (F : FD K 16 "is_streak" a fd) : Binds K fd (d_is_streak.N.take d_is_streak.np) [] := F.bindsN fun _ _ _ _ _ _ us hl => match us, hl with | [_], _ => rfl
theorem db7 : defB d_is_form (topS 17) = true := by kernel_rfl
theorem bn7 {K : PySem.W.Frag} {a : Addr} {fd : FuncData} (F : FD K 17 "is_form" a fd) : Binds K fd (d_is_form.N.take d_is_form.np) [] := F.bindsN fun _ _ _ _ _ _ us hl => match us, hl with | [_], _ => rfl
theorem db8 : defB d_is_state (topS 18) = true := by kernel_rfl
theorem bn8 {K : PySem.W.Frag} {a : Addr} {fd : FuncData} (F : FD K 18 "is_state" a fd) : Binds K fd (d_is_state.N.take d_is_state.np) [] := F.bindsN fun _ _ _ _ _ _ us hl => match us, hl with | [_, _], _ => rfl
theorem db9 : defB d_uncut (topS 19) = true := by kernel_rfl
theorem bn9 {K : PySem.W.Frag} {a : Addr} {fd : FuncData} (F : FD K 19 "uncut" a fd) : Binds K fd (d_uncut.N.take d_uncut.np) [] := F.bindsN fun _ _ _ _ _ _ us hl => match us, hl with | [_, _, _], _ => rfl
theorem db10 : defB d_charge (topS 20) = true := by kernel_rfl
theorem bn10 {K : PySem.W.Frag} {a : Addr} {fd : FuncData} (F : FD K 20 "charge" a fd) : Binds K fd (d_charge.N.take d_charge.np) [] := F.bindsN fun _ _ _ _ _ _ us hl => match us, hl with | [_, _, _], _ => rfl
theorem db11 : defB d_onward (topS 21) = true := by kernel_rfl
theorem bn11 {K : PySem.W.Frag} {a : Addr} {fd : FuncData} (F : FD K 21 "onward" a fd) : Binds K fd (d_onward.N.take d_onward.np) [] := F.bindsN fun _ _ _ _ _ _ us hl => match us, hl with | [_, _, _], _ => rfl
theorem db12 : defB d_walked (topS 22) = true := by kernel_rfl
theorem bn12 {K : PySem.W.Frag} {a : Addr} {fd : FuncData} (F : FD K 22 "walked" a fd) : Binds K fd (d_walked.N.take d_walked.np) [] := F.bindsN fun _ _ _ _ _ _ us hl => match us, hl with | [_, _], _ => rfl
theorem db13 : defB d_far_use (topS 23) = true := by kernel_rfl
theorem bn13 {K : PySem.W.Frag} {a : Addr} {fd : FuncData} (F : FD K 23 "far_use" a fd) : Binds K fd (d_far_use.N.take d_far_use.np) [] := F.bindsN fun _ _ _ _ _ _ us hl => match us, hl with | [_], _ => rfl
theorem db14 : defB d_bends (topS 24) = true := by kernel_rfl
theorem bn14 {K : PySem.W.Frag} {a : Addr} {fd : FuncData} (F : FD K 24 "bends" a fd) : Binds K fd (d_bends.N.take d_bends.np) [] := F.bindsN fun _ _ _ _ _ _ us hl => match us, hl with | [_, _], _ => rfl
theorem db15 : defB d_turns (topS 25) = true := by kernel_rfl
theorem bn15 {K : PySem.W.Frag} {a : Addr} {fd : FuncData} (F : FD K 25 "turns" a fd) : Binds K fd (d_turns.N.take d_turns.np) [] := F.bindsN fun _ _ _ _ _ _ us hl => match us, hl with | [_, _, _, _], _ => rfl
theorem db16 : defB d_gap (topS 26) = true := by kernel_rfl
theorem bn16 {K : PySem.W.Frag} {a : Addr} {fd : FuncData} (F : FD K 26 "gap" a fd) : Binds K fd (d_gap.N.take d_gap.np) [] := F.bindsN fun _ _ _ _ _ _ us hl => match us, hl with | [_, _, _, _, _], _ => rfl
theorem db17 : defB d_growth (topS 27) = true := by kernel_rfl
theorem bn17 {K : PySem.W.Frag} {a : Addr} {fd : FuncData} (F : FD K 27 "growth" a fd) : Binds K fd (d_growth.N.take d_growth.np) [] := F.bindsN fun _ _ _ _ _ _ us hl => match us, hl with | [_, _, _, _, _], _ => rfl
theorem db18 : defB d_lead_of (topS 28) = true := by kernel_rfl
theorem bn18 {K : PySem.W.Frag} {a : Addr} {fd : FuncData} (F : FD K 28 "lead_of" a fd) : Binds K fd (d_lead_of.N.take d_lead_of.np) [] := F.bindsN fun _ _ _ _ _ _ us hl => match us, hl with | [_, _, _], _ => rfl
theorem db19 : defB d_loss_of (topS 29) = true := by kernel_rfl
theorem bn19 {K : PySem.W.Frag} {a : Addr} {fd : FuncData} (F : FD K 29 "loss_of" a fd) : Binds K fd (d_loss_of.N.take d_loss_of.np) [] := F.bindsN fun _ _ _ _ _ _ us hl => match us, hl with | [_, _], _ => rfl
theorem db20 : defB d_is_ascending (topS 30) = true := by kernel_rfl
theorem bn20 {K : PySem.W.Frag} {a : Addr} {fd : FuncData} (F : FD K 30 "is_ascending" a fd) : Binds K fd (d_is_ascending.N.take d_is_ascending.np) [] := F.bindsN fun _ _ _ _ _ _ us hl => match us, hl with | [_], _ => rfl
theorem db21 : defB d_known_numbers (topS 31) = true := by kernel_rfl
theorem bn21 {K : PySem.W.Frag} {a : Addr} {fd : FuncData} (F : FD K 31 "known_numbers" a fd) : Binds K fd (d_known_numbers.N.take d_known_numbers.np) [] := F.bindsN fun _ _ _ _ _ _ us hl => match us, hl with | [_, _, _, _], _ => rfl
theorem db22 : defB d_near_and_far (topS 32) = true := by kernel_rfl
theorem bn22 {K : PySem.W.Frag} {a : Addr} {fd : FuncData} (F : FD K 32 "near_and_far" a fd) : Binds K fd (d_near_and_far.N.take d_near_and_far.np) [] := F.bindsN fun _ _ _ _ _ _ us hl => match us, hl with | [_, _], _ => rfl
theorem db23 : defB d_is_never_at (topS 33) = true := by kernel_rfl
theorem bn23 {K : PySem.W.Frag} {a : Addr} {fd : FuncData} (F : FD K 33 "is_never_at" a fd) : Binds K fd (d_is_never_at.N.take d_is_never_at.np) [] := F.bindsN fun _ _ _ _ _ _ us hl => match us, hl with | [_, _, _, _, _], _ => rfl
theorem db24 : defB d_is_thrifty_at (topS 34) = true := by kernel_rfl
theorem bn24 {K : PySem.W.Frag} {a : Addr} {fd : FuncData} (F : FD K 34 "is_thrifty_at" a fd) : Binds K fd (d_is_thrifty_at.N.take d_is_thrifty_at.np) [] := F.bindsN fun _ _ _ _ _ _ us hl => match us, hl with | [_, _, _, _], _ => rfl
theorem db25 : defB d_is_alike_at (topS 35) = true := by kernel_rfl
theorem bn25 {K : PySem.W.Frag} {a : Addr} {fd : FuncData} (F : FD K 35 "is_alike_at" a fd) : Binds K fd (d_is_alike_at.N.take d_is_alike_at.np) [] := F.bindsN fun _ _ _ _ _ _ us hl => match us, hl with | [_, _, _, _], _ => rfl
theorem db26 : defB d_accepts_ahead (topS 36) = true := by kernel_rfl
theorem bn26 {K : PySem.W.Frag} {a : Addr} {fd : FuncData} (F : FD K 36 "accepts_ahead" a fd) : Binds K fd (d_accepts_ahead.N.take d_accepts_ahead.np) [] := F.bindsN fun _ _ _ _ _ _ us hl => match us, hl with | [_, _, _, _, _], _ => rfl
theorem db27 : defB d_accepts_loop (topS 37) = true := by kernel_rfl
theorem bn27 {K : PySem.W.Frag} {a : Addr} {fd : FuncData} (F : FD K 37 "accepts_loop" a fd) : Binds K fd (d_accepts_loop.N.take d_accepts_loop.np) [] := F.bindsN fun _ _ _ _ _ _ us hl => match us, hl with | [_, _, _, _, _], _ => rfl
theorem db28 : defB d_accepts_ray (topS 38) = true := by kernel_rfl
theorem bn28 {K : PySem.W.Frag} {a : Addr} {fd : FuncData} (F : FD K 38 "accepts_ray" a fd) : Binds K fd (d_accepts_ray.N.take d_accepts_ray.np) [] := F.bindsN fun _ _ _ _ _ _ us hl => match us, hl with | [_, _, _, _, _], _ => rfl
theorem db29 : defB d_accepts_never (topS 39) = true := by kernel_rfl
theorem bn29 {K : PySem.W.Frag} {a : Addr} {fd : FuncData} (F : FD K 39 "accepts_never" a fd) : Binds K fd (d_accepts_never.N.take d_accepts_never.np) [] := F.bindsN fun _ _ _ _ _ _ us hl => match us, hl with | [_, _, _, _, _], _ => rfl
theorem db30 : defB d_accepts_apart (topS 40) = true := by kernel_rfl
theorem bn30 {K : PySem.W.Frag} {a : Addr} {fd : FuncData} (F : FD K 40 "accepts_apart" a fd) : Binds K fd (d_accepts_apart.N.take d_accepts_apart.np) [] := F.bindsN fun _ _ _ _ _ _ us hl => match us, hl with | [_, _, _, _], _ => rfl
theorem db31 : defB d_accepts_alike (topS 41) = true := by kernel_rfl
theorem bn31 {K : PySem.W.Frag} {a : Addr} {fd : FuncData} (F : FD K 41 "accepts_alike" a fd) : Binds K fd (d_accepts_alike.N.take d_accepts_alike.np) [] := F.bindsN fun _ _ _ _ _ _ us hl => match us, hl with | [_, _, _], _ => rfl
theorem db32 : defB d_accepts_lost (topS 42) = true := by kernel_rfl
theorem bn32 {K : PySem.W.Frag} {a : Addr} {fd : FuncData} (F : FD K 42 "accepts_lost" a fd) : Binds K fd (d_accepts_lost.N.take d_accepts_lost.np) [] := F.bindsN fun _ _ _ _ _ _ us hl => match us, hl with | [_, _, _, _], _ => rfl
theorem db33 : defB d_accepts_losing (topS 43) = true := by kernel_rfl
theorem bn33 {K : PySem.W.Frag} {a : Addr} {fd : FuncData} (F : FD K 43 "accepts_losing" a fd) : Binds K fd (d_accepts_losing.N.take d_accepts_losing.np) [] := F.bindsN fun _ _ _ _ _ _ us hl => match us, hl with | [_, _, _, _], _ => rfl
theorem db34 : defB d_accepts_thrifty (topS 44) = true := by kernel_rfl
theorem bn34 {K : PySem.W.Frag} {a : Addr} {fd : FuncData} (F : FD K 44 "accepts_thrifty" a fd) : Binds K fd (d_accepts_thrifty.N.take d_accepts_thrifty.np) [] := F.bindsN fun _ _ _ _ _ _ us hl => match us, hl with | [_, _, _, _], _ => rfl
theorem db35 : defB d_row_sum (topS 45) = true := by kernel_rfl
theorem bn35 {K : PySem.W.Frag} {a : Addr} {fd : FuncData} (F : FD K 45 "row_sum" a fd) : Binds K fd (d_row_sum.N.take d_row_sum.np) [] := F.bindsN fun _ _ _ _ _ _ us hl => match us, hl with | [_, _, _, _], _ => rfl
theorem db36 : defB d_are_bounds (topS 46) = true := by kernel_rfl
theorem bn36 {K : PySem.W.Frag} {a : Addr} {fd : FuncData} (F : FD K 46 "are_bounds" a fd) : Binds K fd (d_are_bounds.N.take d_are_bounds.np) [] := F.bindsN fun _ _ _ _ _ _ us hl => match us, hl with | [_, _, _, _], _ => rfl
theorem db37 : defB d_accepts_cheapest (topS 47) = true := by kernel_rfl
theorem bn37 {K : PySem.W.Frag} {a : Addr} {fd : FuncData} (F : FD K 47 "accepts_cheapest" a fd) : Binds K fd (d_accepts_cheapest.N.take d_accepts_cheapest.np) [] := F.bindsN fun _ _ _ _ _ _ us hl => match us, hl with | [_, _, _, _, _], _ => rfl
theorem db40 : defB d_law_pool (topS 52) = true := by kernel_rfl
theorem bn40 {K : PySem.W.Frag} {a : Addr} {fd : FuncData} (F : FD K 52 "_law_pool" a fd) : Binds K fd (d_law_pool.N.take d_law_pool.np) [] := F.bindsN fun _ _ _ _ _ _ us hl => match us, hl with | [_], _ => rfl
theorem db41 : defB d_law_draw (topS 53) = true := by kernel_rfl
theorem bn41 {K : PySem.W.Frag} {a : Addr} {fd : FuncData} (F : FD K 53 "_law_draw" a fd) : Binds K fd (d_law_draw.N.take d_law_draw.np) [] := F.bindsN fun _ _ _ _ _ _ us hl => match us, hl with | [_, _], _ => rfl
theorem db42 : defB d_law_wide (topS 54) = true := by kernel_rfl
theorem bn42 {K : PySem.W.Frag} {a : Addr} {fd : FuncData} (F : FD K 54 "_law_wide" a fd) : Binds K fd (d_law_wide.N.take d_law_wide.np) [] := F.bindsN fun _ _ _ _ _ _ us hl => match us, hl with | [_, _], _ => rfl
theorem db43 : defB d_law_coins (topS 55) = true := by kernel_rfl
theorem bn43 {K : PySem.W.Frag} {a : Addr} {fd : FuncData} (F : FD K 55 "_law_coins" a fd) : Binds K fd (d_law_coins.N.take d_law_coins.np) [] := F.bindsN fun _ _ _ _ _ _ us hl => match us, hl with | [_], _ => rfl
theorem db44 : defB d_law_price (topS 56) = true := by kernel_rfl
theorem bn44 {K : PySem.W.Frag} {a : Addr} {fd : FuncData} (F : FD K 56 "_law_price" a fd) : Binds K fd (d_law_price.N.take d_law_price.np) [] := F.bindsN fun _ _ _ _ _ _ us hl => match us, hl with | [_], _ => rfl
theorem db45 : defB d_law_form (topS 57) = true := by kernel_rfl
theorem bn45 {K : PySem.W.Frag} {a : Addr} {fd : FuncData} (F : FD K 57 "_law_form" a fd) : Binds K fd (d_law_form.N.take d_law_form.np) [] := F.bindsN fun _ _ _ _ _ _ us hl => match us, hl with | [_, _], _ => rfl
theorem db46 : defB d_law_start (topS 58) = true := by kernel_rfl
theorem bn46 {K : PySem.W.Frag} {a : Addr} {fd : FuncData} (F : FD K 58 "_law_start" a fd) : Binds K fd (d_law_start.N.take d_law_start.np) [] := F.bindsN fun _ _ _ _ _ _ us hl => match us, hl with | [], _ => rfl
theorem db47 : defB d_law_use (topS 59) = true := by kernel_rfl
theorem bn47 {K : PySem.W.Frag} {a : Addr} {fd : FuncData} (F : FD K 59 "_law_use" a fd) : Binds K fd (d_law_use.N.take d_law_use.np) [] := F.bindsN fun _ _ _ _ _ _ us hl => match us, hl with | [_], _ => rfl
theorem db48 : defB d_law_history (topS 60) = true := by kernel_rfl
theorem bn48 {K : PySem.W.Frag} {a : Addr} {fd : FuncData} (F : FD K 60 "_law_history" a fd) : Binds K fd (d_law_history.N.take d_law_history.np) [] := F.bindsN fun _ _ _ _ _ _ us hl => match us, hl with | [_, _], _ => rfl
theorem db49 : defB d_law_bill (topS 61) = true := by kernel_rfl
theorem bn49 {K : PySem.W.Frag} {a : Addr} {fd : FuncData} (F : FD K 61 "_law_bill" a fd) : Binds K fd (d_law_bill.N.take d_law_bill.np) [] := F.bindsN fun _ _ _ _ _ _ us hl => match us, hl with | [_, _, _], _ => rfl
theorem db50 : defB d_law_next (topS 62) = true := by kernel_rfl
theorem bn50 {K : PySem.W.Frag} {a : Addr} {fd : FuncData} (F : FD K 62 "_law_next" a fd) : Binds K fd (d_law_next.N.take d_law_next.np) [] := F.bindsN fun _ _ _ _ _ _ us hl => match us, hl with | [_, _, _], _ => rfl
theorem db51 : defB d_law_walk (topS 63) = true := by kernel_rfl
theorem bn51 {K : PySem.W.Frag} {a : Addr} {fd : FuncData} (F : FD K 63 "_law_walk" a fd) : Binds K fd (d_law_walk.N.take d_law_walk.np) [] := F.bindsN fun _ _ _ _ _ _ us hl => match us, hl with | [_, _, _], _ => rfl
theorem db52 : defB d_law_begin (topS 64) = true := by kernel_rfl
theorem bn52 {K : PySem.W.Frag} {a : Addr} {fd : FuncData} (F : FD K 64 "_law_begin" a fd) : Binds K fd (d_law_begin.N.take d_law_begin.np) [] := F.bindsN fun _ _ _ _ _ _ us hl => match us, hl with | [_], _ => rfl
theorem db53 : defB d_law_first (topS 65) = true := by kernel_rfl
theorem bn53 {K : PySem.W.Frag} {a : Addr} {fd : FuncData} (F : FD K 65 "_law_first" a fd) : Binds K fd (d_law_first.N.take d_law_first.np) [] := F.bindsN fun _ _ _ _ _ _ us hl => match us, hl with | [_, _, _, _], _ => rfl
theorem db54 : defB d_law_edges (topS 66) = true := by kernel_rfl
theorem bn54 {K : PySem.W.Frag} {a : Addr} {fd : FuncData} (F : FD K 66 "_law_edges" a fd) : Binds K fd (d_law_edges.N.take d_law_edges.np) [] := F.bindsN fun _ _ _ _ _ _ us hl => match us, hl with | [_, _], _ => rfl
theorem db55 : defB d_law_tries (topS 67) = true := by kernel_rfl
theorem bn55 {K : PySem.W.Frag} {a : Addr} {fd : FuncData} (F : FD K 67 "_law_tries" a fd) : Binds K fd (d_law_tries.N.take d_law_tries.np) [] := F.bindsN fun _ _ _ _ _ _ us hl => match us, hl with | [_, _, _, _], _ => rfl
theorem db56 : defB d_law_allowed (topS 68) = true := by kernel_rfl
theorem bn56 {K : PySem.W.Frag} {a : Addr} {fd : FuncData} (F : FD K 68 "_law_allowed" a fd) : Binds K fd (d_law_allowed.N.take d_law_allowed.np) [] := F.bindsN fun _ _ _ _ _ _ us hl => match us, hl with | [_, _], _ => rfl
theorem db57 : defB d_law_gap (topS 69) = true := by kernel_rfl
theorem bn57 {K : PySem.W.Frag} {a : Addr} {fd : FuncData} (F : FD K 69 "_law_gap" a fd) : Binds K fd (d_law_gap.N.take d_law_gap.np) [] := F.bindsN fun _ _ _ _ _ _ us hl => match us, hl with | [_, _, _, _, _], _ => rfl
theorem db58 : defB d_law_steps (topS 70) = true := by kernel_rfl
theorem bn58 {K : PySem.W.Frag} {a : Addr} {fd : FuncData} (F : FD K 70 "_law_steps" a fd) : Binds K fd (d_law_steps.N.take d_law_steps.np) [] := F.bindsN fun _ _ _ _ _ _ us hl => match us, hl with | [_, _, _, _], _ => rfl
theorem db59 : defB d_law_loss_steps (topS 71) = true := by kernel_rfl
theorem bn59 {K : PySem.W.Frag} {a : Addr} {fd : FuncData} (F : FD K 71 "_law_loss_steps" a fd) : Binds K fd (d_law_loss_steps.N.take d_law_loss_steps.np) [] := F.bindsN fun _ _ _ _ _ _ us hl => match us, hl with | [_, _, _], _ => rfl
theorem db60 : defB d_law_settled (topS 72) = true := by kernel_rfl
theorem bn60 {K : PySem.W.Frag} {a : Addr} {fd : FuncData} (F : FD K 72 "_law_settled" a fd) : Binds K fd (d_law_settled.N.take d_law_settled.np) [] := F.bindsN fun _ _ _ _ _ _ us hl => match us, hl with | [_], _ => rfl
theorem db61 : defB d_law_rows (topS 73) = true := by kernel_rfl
theorem bn61 {K : PySem.W.Frag} {a : Addr} {fd : FuncData} (F : FD K 73 "_law_rows" a fd) : Binds K fd (d_law_rows.N.take d_law_rows.np) [] := F.bindsN fun _ _ _ _ _ _ us hl => match us, hl with | [_], _ => rfl
theorem db62 : defB d_law_same_rows (topS 74) = true := by kernel_rfl
theorem bn62 {K : PySem.W.Frag} {a : Addr} {fd : FuncData} (F : FD K 74 "_law_same_rows" a fd) : Binds K fd (d_law_same_rows.N.take d_law_same_rows.np) [] := F.bindsN fun _ _ _ _ _ _ us hl => match us, hl with | [_], _ => rfl
theorem db63 : defB d_law_claims (topS 75) = true := by kernel_rfl
theorem bn63 {K : PySem.W.Frag} {a : Addr} {fd : FuncData} (F : FD K 75 "_law_claims" a fd) : Binds K fd (d_law_claims.N.take d_law_claims.np) [] := F.bindsN fun _ _ _ _ _ _ us hl => match us, hl with | [_], _ => rfl
theorem db64 : defB d_law_places (topS 76) = true := by kernel_rfl
theorem bn64 {K : PySem.W.Frag} {a : Addr} {fd : FuncData} (F : FD K 76 "_law_places" a fd) : Binds K fd (d_law_places.N.take d_law_places.np) [] := F.bindsN fun _ _ _ _ _ _ us hl => match us, hl with | [_], _ => rfl
theorem db65 : defB d_law_at (topS 77) = true := by kernel_rfl
theorem bn65 {K : PySem.W.Frag} {a : Addr} {fd : FuncData} (F : FD K 77 "_law_at" a fd) : Binds K fd (d_law_at.N.take d_law_at.np) [] := F.bindsN fun _ _ _ _ _ _ us hl => match us, hl with | [_, _], _ => rfl
theorem db66 : defB d_law_with (topS 78) = true := by kernel_rfl
theorem bn66 {K : PySem.W.Frag} {a : Addr} {fd : FuncData} (F : FD K 78 "_law_with" a fd) : Binds K fd (d_law_with.N.take d_law_with.np) [] := F.bindsN fun _ _ _ _ _ _ us hl => match us, hl with | [_, _, _], _ => rfl
theorem db67 : defB d_law_of_another_kind (topS 79) = true := by kernel_rfl
theorem bn67 {K : PySem.W.Frag} {a : Addr} {fd : FuncData} (F : FD K 79 "_law_of_another_kind" a fd) : Binds K fd (d_law_of_another_kind.N.take d_law_of_another_kind.np) [] := F.bindsN fun _ _ _ _ _ _ us hl => match us, hl with | [_, _], _ => rfl
theorem db68 : defB d_law_right (topS 80) = true := by kernel_rfl
theorem bn68 {K : PySem.W.Frag} {a : Addr} {fd : FuncData} (F : FD K 80 "_law_right" a fd) : Binds K fd (d_law_right.N.take d_law_right.np) [] := F.bindsN fun _ _ _ _ _ _ us hl => match us, hl with | [_], _ => rfl
theorem def_all {K : PySem.W.Frag} : ∀ (f : Nat) (D : DefT), dT f = some D → f < 70 ∧ nmOf f = D.nm ∧ defB D (topS (topI f)) = true ∧ ∀ (a : Addr) (fd : FuncData), FD K (topI f) D.nm a fd → Binds K fd (D.N.take D.np) []
  | 0, D, h => by
    obtain rfl : d_is_integer = D := Option.some.inj h
    exact ⟨by decide, by rfl, db0, fun a fd F => bn0 F⟩
  | 1, D, h => by
    obtain rfl : d_is_within = D := Option.some.inj h
    exact ⟨by decide, by rfl, db1, fun a fd F => bn1 F⟩
  | 2, D, h => by
    obtain rfl : d_is_use = D := Option.some.inj h
    exact ⟨by decide, by rfl, db2, fun a fd F => bn2 F⟩
  | 3, D, h => by
    obtain rfl : d_are_uses = D := Option.some.inj h
    exact ⟨by decide, by rfl, db3, fun a fd F => bn3 F⟩
  | 4, D, h => by
    obtain rfl : d_are_pairs = D := Option.some.inj h
    exact ⟨by decide, by rfl, db4, fun a fd F => bn4 F⟩
  | 5, D, h => by
    obtain rfl : d_are_tiers = D := Option.some.inj h
    exact ⟨by decide, by rfl, db5, fun a fd F => bn5 F⟩
  | 6, D, h => by
    obtain rfl : d_is_streak = D := Option.some.inj h
    exact ⟨by decide, by rfl, db6, fun a fd F => bn6 F⟩
  | 7, D, h => by
    obtain rfl : d_is_form = D := Option.some.inj h
    exact ⟨by decide, by rfl, db7, fun a fd F => bn7 F⟩
  | 8, D, h => by
    obtain rfl : d_is_state = D := Option.some.inj h
    exact ⟨by decide, by rfl, db8, fun a fd F => bn8 F⟩
  | 9, D, h => by
    obtain rfl : d_uncut = D := Option.some.inj h
    exact ⟨by decide, by rfl, db9, fun a fd F => bn9 F⟩
  | 10, D, h => by
    obtain rfl : d_charge = D := Option.some.inj h
    exact ⟨by decide, by rfl, db10, fun a fd F => bn10 F⟩
  | 11, D, h => by
    obtain rfl : d_onward = D := Option.some.inj h
    exact ⟨by decide, by rfl, db11, fun a fd F => bn11 F⟩
  | 12, D, h => by
    obtain rfl : d_walked = D := Option.some.inj h
    exact ⟨by decide, by rfl, db12, fun a fd F => bn12 F⟩
  | 13, D, h => by
    obtain rfl : d_far_use = D := Option.some.inj h
    exact ⟨by decide, by rfl, db13, fun a fd F => bn13 F⟩
  | 14, D, h => by
    obtain rfl : d_bends = D := Option.some.inj h
    exact ⟨by decide, by rfl, db14, fun a fd F => bn14 F⟩
  | 15, D, h => by
    obtain rfl : d_turns = D := Option.some.inj h
    exact ⟨by decide, by rfl, db15, fun a fd F => bn15 F⟩
  | 16, D, h => by
    obtain rfl : d_gap = D := Option.some.inj h
    exact ⟨by decide, by rfl, db16, fun a fd F => bn16 F⟩
  | 17, D, h => by
    obtain rfl : d_growth = D := Option.some.inj h
    exact ⟨by decide, by rfl, db17, fun a fd F => bn17 F⟩
  | 18, D, h => by
    obtain rfl : d_lead_of = D := Option.some.inj h
    exact ⟨by decide, by rfl, db18, fun a fd F => bn18 F⟩
  | 19, D, h => by
    obtain rfl : d_loss_of = D := Option.some.inj h
    exact ⟨by decide, by rfl, db19, fun a fd F => bn19 F⟩
  | 20, D, h => by
    obtain rfl : d_is_ascending = D := Option.some.inj h
    exact ⟨by decide, by rfl, db20, fun a fd F => bn20 F⟩
  | 21, D, h => by
    obtain rfl : d_known_numbers = D := Option.some.inj h
    exact ⟨by decide, by rfl, db21, fun a fd F => bn21 F⟩
  | 22, D, h => by
    obtain rfl : d_near_and_far = D := Option.some.inj h
    exact ⟨by decide, by rfl, db22, fun a fd F => bn22 F⟩
  | 23, D, h => by
    obtain rfl : d_is_never_at = D := Option.some.inj h
    exact ⟨by decide, by rfl, db23, fun a fd F => bn23 F⟩
  | 24, D, h => by
    obtain rfl : d_is_thrifty_at = D := Option.some.inj h
    exact ⟨by decide, by rfl, db24, fun a fd F => bn24 F⟩
  | 25, D, h => by
    obtain rfl : d_is_alike_at = D := Option.some.inj h
    exact ⟨by decide, by rfl, db25, fun a fd F => bn25 F⟩
  | 26, D, h => by
    obtain rfl : d_accepts_ahead = D := Option.some.inj h
    exact ⟨by decide, by rfl, db26, fun a fd F => bn26 F⟩
  | 27, D, h => by
    obtain rfl : d_accepts_loop = D := Option.some.inj h
    exact ⟨by decide, by rfl, db27, fun a fd F => bn27 F⟩
  | 28, D, h => by
    obtain rfl : d_accepts_ray = D := Option.some.inj h
    exact ⟨by decide, by rfl, db28, fun a fd F => bn28 F⟩
  | 29, D, h => by
    obtain rfl : d_accepts_never = D := Option.some.inj h
    exact ⟨by decide, by rfl, db29, fun a fd F => bn29 F⟩
  | 30, D, h => by
    obtain rfl : d_accepts_apart = D := Option.some.inj h
    exact ⟨by decide, by rfl, db30, fun a fd F => bn30 F⟩
  | 31, D, h => by
    obtain rfl : d_accepts_alike = D := Option.some.inj h
    exact ⟨by decide, by rfl, db31, fun a fd F => bn31 F⟩
  | 32, D, h => by
    obtain rfl : d_accepts_lost = D := Option.some.inj h
    exact ⟨by decide, by rfl, db32, fun a fd F => bn32 F⟩
  | 33, D, h => by
    obtain rfl : d_accepts_losing = D := Option.some.inj h
    exact ⟨by decide, by rfl, db33, fun a fd F => bn33 F⟩
  | 34, D, h => by
    obtain rfl : d_accepts_thrifty = D := Option.some.inj h
    exact ⟨by decide, by rfl, db34, fun a fd F => bn34 F⟩
  | 35, D, h => by
    obtain rfl : d_row_sum = D := Option.some.inj h
    exact ⟨by decide, by rfl, db35, fun a fd F => bn35 F⟩
  | 36, D, h => by
    obtain rfl : d_are_bounds = D := Option.some.inj h
    exact ⟨by decide, by rfl, db36, fun a fd F => bn36 F⟩
  | 37, D, h => by
    obtain rfl : d_accepts_cheapest = D := Option.some.inj h
    exact ⟨by decide, by rfl, db37, fun a fd F => bn37 F⟩
  | 38, D, h => by cases h
  | 39, D, h => by cases h
  | 40, D, h => by
    obtain rfl : d_law_pool = D := Option.some.inj h
    exact ⟨by decide, by rfl, db40, fun a fd F => bn40 F⟩
  | 41, D, h => by
    obtain rfl : d_law_draw = D := Option.some.inj h
    exact ⟨by decide, by rfl, db41, fun a fd F => bn41 F⟩
  | 42, D, h => by
    obtain rfl : d_law_wide = D := Option.some.inj h
    exact ⟨by decide, by rfl, db42, fun a fd F => bn42 F⟩
  | 43, D, h => by
    obtain rfl : d_law_coins = D := Option.some.inj h
    exact ⟨by decide, by rfl, db43, fun a fd F => bn43 F⟩
  | 44, D, h => by
    obtain rfl : d_law_price = D := Option.some.inj h
    exact ⟨by decide, by rfl, db44, fun a fd F => bn44 F⟩
  | 45, D, h => by
    obtain rfl : d_law_form = D := Option.some.inj h
    exact ⟨by decide, by rfl, db45, fun a fd F => bn45 F⟩
  | 46, D, h => by
    obtain rfl : d_law_start = D := Option.some.inj h
    exact ⟨by decide, by rfl, db46, fun a fd F => bn46 F⟩
  | 47, D, h => by
    obtain rfl : d_law_use = D := Option.some.inj h
    exact ⟨by decide, by rfl, db47, fun a fd F => bn47 F⟩
  | 48, D, h => by
    obtain rfl : d_law_history = D := Option.some.inj h
    exact ⟨by decide, by rfl, db48, fun a fd F => bn48 F⟩
  | 49, D, h => by
    obtain rfl : d_law_bill = D := Option.some.inj h
    exact ⟨by decide, by rfl, db49, fun a fd F => bn49 F⟩
  | 50, D, h => by
    obtain rfl : d_law_next = D := Option.some.inj h
    exact ⟨by decide, by rfl, db50, fun a fd F => bn50 F⟩
  | 51, D, h => by
    obtain rfl : d_law_walk = D := Option.some.inj h
    exact ⟨by decide, by rfl, db51, fun a fd F => bn51 F⟩
  | 52, D, h => by
    obtain rfl : d_law_begin = D := Option.some.inj h
    exact ⟨by decide, by rfl, db52, fun a fd F => bn52 F⟩
  | 53, D, h => by
    obtain rfl : d_law_first = D := Option.some.inj h
    exact ⟨by decide, by rfl, db53, fun a fd F => bn53 F⟩
  | 54, D, h => by
    obtain rfl : d_law_edges = D := Option.some.inj h
    exact ⟨by decide, by rfl, db54, fun a fd F => bn54 F⟩
  | 55, D, h => by
    obtain rfl : d_law_tries = D := Option.some.inj h
    exact ⟨by decide, by rfl, db55, fun a fd F => bn55 F⟩
  | 56, D, h => by
    obtain rfl : d_law_allowed = D := Option.some.inj h
    exact ⟨by decide, by rfl, db56, fun a fd F => bn56 F⟩
  | 57, D, h => by
    obtain rfl : d_law_gap = D := Option.some.inj h
    exact ⟨by decide, by rfl, db57, fun a fd F => bn57 F⟩
  | 58, D, h => by
    obtain rfl : d_law_steps = D := Option.some.inj h
    exact ⟨by decide, by rfl, db58, fun a fd F => bn58 F⟩
  | 59, D, h => by
    obtain rfl : d_law_loss_steps = D := Option.some.inj h
    exact ⟨by decide, by rfl, db59, fun a fd F => bn59 F⟩
  | 60, D, h => by
    obtain rfl : d_law_settled = D := Option.some.inj h
    exact ⟨by decide, by rfl, db60, fun a fd F => bn60 F⟩
  | 61, D, h => by
    obtain rfl : d_law_rows = D := Option.some.inj h
    exact ⟨by decide, by rfl, db61, fun a fd F => bn61 F⟩
  | 62, D, h => by
    obtain rfl : d_law_same_rows = D := Option.some.inj h
    exact ⟨by decide, by rfl, db62, fun a fd F => bn62 F⟩
  | 63, D, h => by
    obtain rfl : d_law_claims = D := Option.some.inj h
    exact ⟨by decide, by rfl, db63, fun a fd F => bn63 F⟩
  | 64, D, h => by
    obtain rfl : d_law_places = D := Option.some.inj h
    exact ⟨by decide, by rfl, db64, fun a fd F => bn64 F⟩
  | 65, D, h => by
    obtain rfl : d_law_at = D := Option.some.inj h
    exact ⟨by decide, by rfl, db65, fun a fd F => bn65 F⟩
  | 66, D, h => by
    obtain rfl : d_law_with = D := Option.some.inj h
    exact ⟨by decide, by rfl, db66, fun a fd F => bn66 F⟩
  | 67, D, h => by
    obtain rfl : d_law_of_another_kind = D := Option.some.inj h
    exact ⟨by decide, by rfl, db67, fun a fd F => bn67 F⟩
  | 68, D, h => by
    obtain rfl : d_law_right = D := Option.some.inj h
    exact ⟨by decide, by rfl, db68, fun a fd F => bn68 F⟩
  | n + 69, D, h => by cases h
end K26
set_option maxHeartbeats 4000000
namespace K26
open PySem PySem.Spec PyProof.Rows L2 PySem.W PySem.SeqAt
section
variable {P : Program} {w : World} {K : PySem.W.Frag} {mg : Str → Option Value} {base : Heap}
/-- the lambda of _law_claims, at every depth -/
theorem set_ok {cc P0 : Addr} {z : Str} {tt : List (Addr × Str)} (hz : z = ("_law_claims" : Str) ++ ".<locals>." ++ "<lambda>") (htt : tt = [(P0, z)]) (TB : LamX.TabB base mg cc P0) {st60 : Stmt} {g60 : Addr} {fd60 : FuncData} (D60 : DefH K mg d_law_settled st60 g60 fd60)
    (n : Nat) (L : ∀ m, m ≤ n → Lv P w K mg base (cfN m) tt (4 * m)) (D : DefT) (st : Stmt) (fa : Addr) (fd : FuncData) (hD : DefH K mg D st fa fd) (hnm : D.nm = "_law_claims") (cdv : Value) (A : Around) (outer : List Env) (s : Shared) (H : Hp) (hc : cdv = .ref cc) (gd : A.guards = some [])
    (o : Ok0 (cxOf L2.CX0 P w K mg base D.N D.nm (L2.defScope st) fa cdv A outer s H L2.E0).nox ⟨L2.defScope st, D.N, true, true⟩ (cfN n) { tt := tt } (4 * n + 3)) :
    Okx (cxOf L2.CX0 P w K mg base D.N D.nm (L2.defScope st) fa cdv A outer s H L2.E0).nox ⟨L2.defScope st, D.N, true, true⟩ (cfN n) { tt := tt } (4 * n + 3) := by
  refine ⟨o, fun _ hg caps b y args body sc pos p p2 hy hlb hbody => ?_⟩
  cases n with
  | zero =>
    refine ⟨fun pins s σ H Q I h => ?_⟩
    obtain ⟨W, Γ, S, d, S', hF, R, e, kq⟩ := h
    have e : (match Γ[(0 : Nat)]? with
      | some (some .pool) => (none : Re)
      | _ => none) = some (d, S') := e
    split at e <;> cases e
  | succ m =>
    have hq : (cxOf L2.CX0 P w K mg base D.N D.nm (L2.defScope st) fa cdv A outer s H L2.E0).nox.env.qual ++ ("<lambda>" : Str) = z := by
      rw [hz]
      exact congrArg (fun y : Str => y ++ (".<locals>." : Str) ++ ("<lambda>" : Str)) hnm
    have h1 : (P0, (cxOf L2.CX0 P w K mg base D.N D.nm (L2.defScope st) fa cdv A outer s H L2.E0).nox.env.qual ++ ("<lambda>" : Str)) ∈ tt := by
      rw [hq, htt]
      exact List.mem_cons_self
    have h2 : ∀ q ∈ tt, q.1 = P0 → q.2 = (cxOf L2.CX0 P w K mg base D.N D.nm (L2.defScope st) fa cdv A outer s H L2.E0).nox.env.qual ++ ("<lambda>" : Str) := fun q h _ => by
      rw [hq]
      rw [htt] at h
      exact congrArg Prod.snd (List.mem_singleton.mp h)
    exact settle_pe (lev := 0) (k := ⟨L2.defScope st, D.N, true, true⟩) (F := { tt := tt }) (cc := cc) (P0 := P0) o.N o.sc o.gd o.rm (o.gl_ hg).1 D60 (L m (Nat.le_succ m)) (L (m + 1) (Nat.le_refl _)) TB hc h1 h2 hy hlb hbody
end
end K26
namespace K26
open PySem PySem.Spec PyProof.Rows L2 PySem.W PySem.SeqAt
/-! ### accepts: its shape -/
def psE : Nat → Expr → List Pos
  | 0, _ => []
  | n + 1, e => match e with
    | .Name _ p => [p]
    | .Constant _ _ p => [p]
    | .BoolOp _ es p => es.flatMap (psE n) ++ [p]
    | .UnaryOp _ a p => psE n a ++ [p]
    | .Call f as _ p => psE n f ++ as.flatMap (psE n) ++ [p]
    | .Compare a _ bs p => psE n a ++ bs.flatMap (psE n) ++ [p]
    | .Tuple es _ p => es.flatMap (psE n) ++ [p]
    | .Subscript a b p => psE n a ++ psE n b ++ [p]
    | .Slice (some a) _ _ p => psE n a ++ [p]
    | .Starred a p => psE n a ++ [p]
    | _ => []
def psS : Nat → Stmt → List Pos
  | 0, _ => []
  | n + 1, s => match s with
    | .If c a _ p => psE 9 c ++ a.flatMap (psS n) ++ [p]
    | .Assign ts e p => ts.flatMap (psE 9) ++ psE 9 e ++ [p]
    | .Return (some e) p => psE 9 e ++ [p]
    | _ => []
def acPos (i : Nat) : Pos := ((L2.defBody (topS 49)).flatMap (psS 3)).getD i ⟨0, 0, 0, 0⟩
theorem acShape : L2.defBody (topS 49) = acB acPos := by kernel_rfl
theorem acScope : L2.defScope (topS 49) = acS := by kernel_rfl
theorem acFn : FnScope acN ["claim", "certificate"] (L2.defScope (topS 49)) := scB_ok (by kernel_rfl)
theorem acBn {K : PySem.W.Frag} {a : Addr} {fd : FuncData} (F : FD K 49 "accepts" a fd) : Binds K fd ["claim", "certificate"] [] := F.bindsN fun _ _ _ _ _ _ us hl => match us, hl with | [_, _], _ => rfl
/-- a def that has no defaults -/
theorem fun_of {K : PySem.W.Frag} {x : Str} {st : Stmt} {f : Addr} {fd : FuncData} (F : FunD K x x (defArgs st) (defBody st) (defScope st) [] [] f fd) : L2.Fun K x x st f fd := by
  obtain ⟨oc, od, dV, kV, doc, pm, an, cdv, ct, osl, e, lk, hcd, hD, hK⟩ := F.ex
  rcases hD with ⟨_, rfl⟩ | ⟨e, _⟩
  · exact ⟨⟨oc, od, kV, doc, pm, an, cdv, ct, osl, e, lk, hcd⟩, F.kp⟩
  · exact absurd rfl e
theorem acKw {K : PySem.W.Frag} {a : Addr} {fd : FuncData} (F : L2.Fun K "accepts" "accepts" (topS 49) a fd) (s : Shared) (u1 u2 : Value) : BindsTo s fd ⟨[], [("certificate", u1), ("claim", u2)]⟩ ((["claim", "certificate"] : List Str).zip [u2, u1]) := by
  obtain ⟨oc, od, kV, doc, pm, an, cdv, ct, osl, e, lk, hcd⟩ := F.ex
  subst e
  exact .of_eq rfl
end K26
namespace K26
open PySem PySem.Spec PyProof.Rows L2 PySem.W PySem.SeqAt
section
variable {w : World} {K : PySem.W.Frag} {mg : Str → Option Value} {h0 base : Heap}
abbrev Says (w : World) (h : Heap) (K : PySem.W.Frag) : Prop := He.SaysX faL fnL tsL tfL exL w h K
theorem frees : ∀ x ∈ (["len", "abs", "int", "max", "min", "list", "tuple", "all", "sorted", "str", "repr", "divmod", "isinstance", "dict", "set", "range", "enumerate", "zip", "bool"] : List Str), ∃ i, i < 100 ∧ faL[i]? = some (He.Fa.free x) := by
  intro x hx
  simp only [List.mem_cons, List.not_mem_nil, or_false] at hx
  rcases hx with h | h | h | h | h | h | h | h | h | h | h | h | h | h | h | h | h | h | h <;> subst h
  · exact ⟨88, by decide, rfl⟩
  · exact ⟨80, by decide, rfl⟩
  · exact ⟨86, by decide, rfl⟩
  · exact ⟨90, by decide, rfl⟩
  · exact ⟨91, by decide, rfl⟩
  · exact ⟨89, by decide, rfl⟩
  · exact ⟨97, by decide, rfl⟩
  · exact ⟨81, by decide, rfl⟩
  · exact ⟨95, by decide, rfl⟩
  · exact ⟨96, by decide, rfl⟩
  · exact ⟨93, by decide, rfl⟩
  · exact ⟨84, by decide, rfl⟩
  · exact ⟨87, by decide, rfl⟩
  · exact ⟨83, by decide, rfl⟩
  · exact ⟨94, by decide, rfl⟩
  · exact ⟨92, by decide, rfl⟩
  · exact ⟨85, by decide, rfl⟩
  · exact ⟨98, by decide, rfl⟩
  · exact ⟨82, by decide, rfl⟩
theorem ktup_of {a : Addr} {xs : List V} (h : ∀ H, SqT K H a xs) : KTup K a xs := by
  rcases h (fun _ => none) with (h | ⟨o, h⟩) | h
  · cases h
  · cases h
  · exact h
/-- a def of the head -/
theorem hd_def {h1 : Heap} (c : Says w h1 K) {f : Nat} (hf : f < 70) : ∃ fd, FD K (topI f) (nmOf f) (He.ga K (nmOf f)) fd := c.t.d.defs (fn_mem hf)
theorem hd_mg {h1 : Heap} (X : K.In h0) (G : h0.Ns mainGlobals mg) (c : Says w h1 K) {f : Nat} (hf : f < 70) : mg (nmOf f) = some (.ref (He.ga K (nmOf f))) := He.glo_ok X G (c.t.d.facts (fa_mem hf))
theorem hd_defH {h1 : Heap} (X : K.In h0) (G : h0.Ns mainGlobals mg) (c : Says w h1 K) (f : Nat) (D : DefT) (h : dT f = some D) : ∃ fd, DefH K mg D (topS (topI f)) (He.ga K D.nm) fd := by
  obtain ⟨hf, hn, hb, hB⟩ := def_all f D h
  obtain ⟨fd, F⟩ := hd_def c hf
  have m := hd_mg X G c hf
  rw [hn] at F m
  simp only [defB, Bool.and_eq_true, decide_eq_true_eq] at hb
  exact ⟨fd, m, hB _ _ F, fun_of F, scB_ok hb.1.1, hb.1.2, hb.2⟩
theorem hd_tup {h1 : Heap} (c : Says w h1 K) : KTup K (He.ga K "START") [.int 0, .int 0, .int 0] := by
  have e := c.more
  simp only [exL, Bool.and_eq_true] at e
  exact ktup_of fun H => He.tupB_ok (vs := [.int 0, .int 0, .int 0]) e.1.1.1.1.1.1.1.1.1.1 H
theorem hd_mgG {P : Program} {h1 : Heap} (X : K.In h0) (G : h0.Ns mainGlobals mg) (c : Says w h1 K) (g : Nat) (x : Str) (h : gnm g = some x) : ∃ u v, mg x = some u ∧ RelV v u ∧ ∀ M H, At ⟨P, w, K⟩ M H v (glD g) := by
  have it : ∀ (i : Nat) (x : Str) (n : Int), faL[i]? = some (He.Fa.int x n) → ∃ u v, mg x = some u ∧ RelV v u ∧ ∀ M H, At ⟨P, w, K⟩ M H v (.int n) := fun i x n e => by
    obtain ⟨t, q⟩ := He.int_ok X G (c.t.d.fact i e)
    exact ⟨_, .int n, q, ⟨t, rfl⟩, fun _ _ => .int n⟩
  match g, h with
  | 0, h => cases h; exact it 72 _ _ rfl
  | 1, h => cases h; exact it 73 _ _ rfl
  | 2, h => cases h; exact it 74 _ _ rfl
  | 3, h => cases h; exact it 75 _ _ rfl
  | 4, h => cases h; exact it 76 _ _ rfl
  | 5, h => cases h; exact it 77 _ _ rfl
  | 6, h => cases h; exact it 78 _ _ rfl
  | 7, h => cases h; exact it 79 _ _ rfl
  | 8, h =>
    cases h
    exact ⟨_, .ref (He.ga K "START"), He.glo_ok X G (c.t.d.fact 70 (f := .glo "START") rfl), rfl, fun M H => .tup (.inr (hd_tup c)) (by decide) (.cons (.int 0) (.cons (.int 0) (.cons (.int 0) .nil)))⟩
  | n + 9, h => cases h
end
end K26
namespace K26
open PySem PySem.Spec PyProof.Rows L2 PySem.W PySem.SeqAt
section
variable {w : World} {K : PySem.W.Frag} {mg : Str → Option Value} {h0 base : Heap}
theorem dic_keys {d : Addr} {ks : List Str} (h : He.dicW K d = some (He.keysIn w.params ks)) {x : Str} (hx : x ∉ ks) : PySem.W.nsIn K d x = some none := by
  unfold He.dicW at h
  split at h
  · rename_i c es n sl q
    split at h
    · have e := Option.some.inj h
      have key : ∀ y ∈ es.toList, ∃ k t, k ∈ ks ∧ y.key = .str k t := fun y hy => by
        have m : He.keyOf y ∈ He.keysIn w.params ks := by rw [← e]; exact List.mem_map.mpr ⟨y, hy, rfl⟩
        obtain ⟨k, hk, ek⟩ := List.mem_map.mp m
        unfold He.keyOf at ek
        split at ek
        · rename_i z t hz
          have e2 : k = z := congrArg Prod.fst (Option.some.inj ek)
          subst e2
          exact ⟨k, t, hk, hz⟩
        · cases ek
      unfold PySem.W.nsIn
      rw [q]
      show (match es.toList.find? (·.key.isStr x) with
        | some e => some (some e.val)
        | none => if es.toList.any (·.refKey) then none else some none) = _
      have f : es.toList.find? (·.key.isStr x) = none := List.find?_eq_none.mpr fun y hy => by
        obtain ⟨k, t, hk, ek⟩ := key y hy
        rw [ek]
        have : k ≠ x := fun z => hx (z ▸ hk)
        simpa [Value.isStr] using this
      have a : es.toList.any (·.refKey) = false := by
        rw [List.any_eq_false]
        intro y hy
        obtain ⟨k, t, hk, ek⟩ := key y hy
        unfold DictEntry.refKey
        rw [ek]
        simp
      rw [f]
      show (if es.toList.any (·.refKey) then none else some none) = _
      rw [a]
      rfl
    · cases h
  · cases h
theorem judge_ok {k f : Str} {n : Int} (h : judgeB K k f n = true) {es : Array DictEntry} {m : Nat} (D : KDict K w (He.ga K "JUDGES") es m) : ∃ t, KDct K w (He.ga K "JUDGES") k (.ref t) ∧ KTup K t [.ref (He.ga K f), .int n] := by
  unfold judgeB at h
  split at h
  · rename_i t q
    split at h
    · rename_i c d its r sl q2
      simp only [Bool.and_eq_true, decide_eq_true_eq] at h
      obtain ⟨h1, h2⟩ := h
      subst h1
      have v := He.relAll_ok h2
      refine ⟨t, ⟨es, m, .ref t, D.at_, D.lit, q, rfl⟩, ⟨_, its, r, q2, rfl, rfl, ?_, v⟩⟩
      have := v.length
      simp at this
      rw [← Array.length_toList] 
      simp [← this]
      decide
    · cases h
  · cases h
end
end K26
namespace K26
open PySem PySem.Spec PyProof.Rows L2 PySem.W PySem.SeqAt
theorem lookup_mem {β : Type} {x : Str} {y : β} : ∀ {l : List (Str × β)}, l.lookup x = some y → (x, y) ∈ l
  | [], h => by cases h
  | (a, b) :: r, h => by
    rw [List.lookup_cons] at h
    split at h
    · rename_i e
      cases h
      have : x = a := by simpa using e
      subst this
      exact List.mem_cons_self
    · exact List.mem_cons_of_mem _ (lookup_mem h)
theorem lookup_not {β : Type} {x : Str} : ∀ {l : List (Str × β)}, l.lookup x = none → x ∉ l.map (·.1)
  | [], _, m => by cases m
  | (a, b) :: r, h, m => by
    rw [List.lookup_cons] at h
    split at h
    · cases h
    · rename_i e
      have e : (x == a) = false := by simpa using e
      rcases List.mem_cons.mp m with m | m
      · have m : x = a := m
        rw [m] at e
        simp at e
      · exact lookup_not h m
section
variable {w : World} {K : PySem.W.Frag} {mg : Str → Option Value} {h0 h1 : Heap}
theorem hd_judges (X : K.In h0) (G : h0.Ns mainGlobals mg) (c : Says w h1 K) : JH K w mg (He.ga K "JUDGES") := by
  obtain ⟨es, m, D⟩ := c.t.tab 0
  have D : KDict K w (He.ga K "JUDGES") es m := D
  refine ⟨He.glo_ok X G (c.t.d.fact 71 (f := .glo "JUDGES") rfl), ⟨es, m, D⟩, fun x j many h => ?_, fun x h => ?_⟩
  · have e := c.more
    simp only [exL, Bool.and_eq_true] at e
    obtain ⟨⟨⟨⟨⟨⟨⟨⟨⟨⟨_, q1⟩, q2⟩, q3⟩, q4⟩, q5⟩, q6⟩, q7⟩, q8⟩, q9⟩, q10⟩ := e
    have go : ∀ (k f : Str) (n i : Nat), judgeB K k f n = true → fnm i = some f → i < 70 → nmOf i = f → ∃ (t fa : Addr) (nm : Str), fnm i = some nm ∧ mg nm = some (.ref fa) ∧ KDct K w (He.ga K "JUDGES") k (.ref t) ∧ KTup K t [.ref fa, .int ((n : Nat) : Int)] := fun k f n i q e hi en => by
      obtain ⟨t, z1, z2⟩ := judge_ok q D
      refine ⟨t, He.ga K f, f, e, ?_, z1, z2⟩
      have := hd_mg X G c hi
      rw [en] at this
      exact this
    have m := lookup_mem h
    simp only [judges, List.mem_cons, List.not_mem_nil, or_false, Prod.mk.injEq] at m
    rcases m with ⟨rfl, rfl, rfl⟩ | ⟨rfl, rfl, rfl⟩ | ⟨rfl, rfl, rfl⟩ | ⟨rfl, rfl, rfl⟩ | ⟨rfl, rfl, rfl⟩ | ⟨rfl, rfl, rfl⟩ | ⟨rfl, rfl, rfl⟩ | ⟨rfl, rfl, rfl⟩ | ⟨rfl, rfl, rfl⟩ | ⟨rfl, rfl, rfl⟩
    · exact go _ _ 5 26 q1 rfl (by decide) rfl
    · exact go _ _ 5 27 q2 rfl (by decide) rfl
    · exact go _ _ 5 28 q3 rfl (by decide) rfl
    · exact go _ _ 5 29 q4 rfl (by decide) rfl
    · exact go _ _ 4 30 q5 rfl (by decide) rfl
    · exact go _ _ 3 31 q6 rfl (by decide) rfl
    · exact go _ _ 4 32 q7 rfl (by decide) rfl
    · exact go _ _ 4 33 q8 rfl (by decide) rfl
    · exact go _ _ 4 34 q9 rfl (by decide) rfl
    · exact go _ _ 5 37 q10 rfl (by decide) rfl
  · have e : ([He.dicW K (He.ga K "JUDGES")] : List _) = [some (He.keysIn w.params ["ahead", "loop", "ray", "never", "apart", "alike", "lost", "losing", "thrifty", "cheapest"])] := congrArg (fun z : He.AlT => z.2) c.t
    exact dic_keys (List.cons.inj e).1 (lookup_not h)
/-- the code object of _law_claims, its table -/
abbrev ccOf (K : PySem.W.Frag) : Addr := (He.cT K ("_law_claims", none)).1
abbrev tbOf (K : PySem.W.Frag) : Addr := (He.cT K ("_law_claims", none)).2
abbrev lamS : Str := ("_law_claims" : Str) ++ ".<locals>." ++ "<lambda>"
/-- THE HEAD'S FACTS -/
theorem headF {P : Program} {base : Heap} (X : K.In h0) (G : h0.Ns mainGlobals mg) (c : Says w h1 K) (z : Str) (hz : z = lamS) (TB : LamX.TabB base mg (ccOf K) (tbOf K)) : HeadF P w K mg base [(tbOf K, z)] := by
  refine ⟨fun x hx => ?_, fun g x h => hd_mgG X G c g x h, fun f D h => ?_, fun n L => ?_, fun n L D st fa fd hD hnm cdv A outer s H hc hf gd o => ?_⟩
  · obtain ⟨i, _, e⟩ := frees x hx
    exact He.free_ok X G (c.t.d.fact i e)
  · obtain ⟨fd, q⟩ := hd_defH X G c f D h
    exact ⟨_, _, fd, q⟩
  · obtain ⟨fd, F⟩ := hd_def c (show 38 < 70 by decide)
    have F : FD K 49 "accepts" (He.ga K "accepts") fd := F
    have m : mg "accepts" = some (.ref (He.ga K "accepts")) := hd_mg X G c (show 38 < 70 by decide)
    exact ⟨_, fd, ["claim", "certificate"], m, F.kp, acBn F, acc_ok L (cfN_lf n) (fun_of F) acFn acScope acPos acShape (hd_judges X G c), fun s u1 u2 => acKw (fun_of F) s u1 u2⟩
  · obtain ⟨fd60, D60⟩ := hd_defH X G c 60 d_law_settled rfl
    refine set_ok hz rfl TB D60 n L D st fa fd hD hnm cdv A outer s H ?_ gd o
    obtain ⟨cx, hcx⟩ := He.codeIn_ref hc
    obtain ⟨oc, od, kV, doc, pm, an, cdv', ct, osl, e, lk, hcd⟩ := hD.fn.ex
    have m := hD.mg
    rw [hnm] at m
    have m2 : mg "_law_claims" = some (.ref (He.ga K "_law_claims")) := hd_mg X G c (show 63 < 70 by decide)
    have ea : fa = He.ga K "_law_claims" := by rw [m2] at m; cases m; rfl
    have := He.codeOf_eq (p := ("_law_claims", none)) (c := cx) (by rw [ea] at lk; exact lk) (by rw [hf, hcx])
    rw [hcx, ← this]
    rfl
end
end K26
namespace K26.Q
open PySem L2

theorem nr {α : Sort _} {a b : α} (h : a = b) : a = b := h
/-! ### THE PLAIN LAW: the defs as they answer, def by def -/
def Fn (n i : Nat) (ds : List PyData) : Option PyData := ((cfN n).fn i).bind fun g => g ds
def Pf (n i : Nat) (ds : List PyData) (S : Pl) : Option (PyData × Pl) := ((cfN n).pf i).bind fun g => g ds S
theorem Fn_run {D : DefT} (n i : Nat) (ds : List PyData) (hD : dT i = some D) (h38 : i ≠ 38) (hp : D.pool = false) (hf : D.fna = false) (hl : ds.length = D.np) :
    Fn (n + 1) i ds = (D.run (cfN n) (ds.map fun d => some (.d d)) []).map (·.1) := by
  unfold Fn
  show Option.bind (if i = 38 then some (acceptsD (cfN n).fn) else match dT i with
      | some D => if D.pool || D.fna then none else some fun (ds : List PyData) => if ds.length = D.np then (D.run (cfN n) (ds.map fun d => some (.d d)) []).map (·.1) else none
      | none => none) (fun g => g ds) = _
  rw [if_neg h38, hD]
  simp [hp, hf, hl]
theorem Pf_run {D : DefT} (n i : Nat) (ds : List PyData) (S : Pl) (hD : dT i = some D) (hp : D.pool = true) (hl : ds.length + 1 = D.np) :
    Pf (n + 1) i ds S = D.run (cfN n) (some .pool :: ds.map fun d => some (.d d)) S := by
  unfold Pf
  show Option.bind (match dT i with
      | some D => if D.pool then some fun (ds : List PyData) (S : Pl) => if ds.length + 1 = D.np then D.run (cfN n) (some .pool :: ds.map fun d => some (.d d)) S else none else none
      | none => none) (fun g => g ds S) = _
  rw [hD]
  simp [hp, hl]
section
variable {n : Nat} {c : Cf} {Γ : Gm} {S : Pl}
/-- a slot's datum -/
def gv (Γ : Gm) (i : Nat) : Option PyData := match Γ[i]? with
  | some (some (.d x)) => some x
  | _ => none
@[simp] theorem gv_z {x : PyData} {Γ : Gm} : gv (some (.d x) :: Γ) 0 = some x := nr rfl
@[simp] theorem gv_s {y : Option Sl} {Γ : Gm} {i : Nat} : gv (y :: Γ) (i + 1) = gv Γ i := nr rfl
@[simp] theorem e_var {i : Nat} : evE c (.var i) Γ S = (gv Γ i).map fun x => (x, S) := by
  show (match Γ[i]? with
    | some (some (.d x)) => some (x, S)
    | _ => none) = _
  unfold gv
  split <;> rfl
@[simp] theorem e_non : evE c .non Γ S = some (.none, S) := nr rfl
@[simp] theorem e_bl {b : Bool} : evE c (.bl b) Γ S = some (.bool b, S) := nr rfl
@[simp] theorem e_int {i : Int} : evE c (.int i) Γ S = some (.int i, S) := nr rfl
@[simp] theorem e_str {x : Str} : evE c (.str x) Γ S = some (.str x, S) := nr rfl
@[simp] theorem gl_cf : (cfN n).gl = glD := by cases n <;> rfl
@[simp] theorem e_glo {g : Nat} : evE (cfN n) (.glo g) Γ S = some (glD g, S) := by
  show some ((cfN n).gl g, S) = _
  rw [gl_cf]
@[simp] theorem e_bin {op : Operator} {a b : Tm} : evE c (.bin op a b) Γ S = (evE c a Γ S).bind fun p => (evE c b Γ p.2).bind fun q => (binD op p.1 q.1).map fun d => (d, q.2) := nr rfl
@[simp] theorem e_neg {a : Tm} : evE c (.neg a) Γ S = (evE c a Γ S).bind fun p => (intD p.1).map fun i => (.int (-i), p.2) := nr rfl
@[simp] theorem e_cmp {op : CmpOp} {a b : Tm} : evE c (.cmp op a b) Γ S = (evE c a Γ S).bind fun p => (evE c b Γ p.2).bind fun q => (cmpD op p.1 q.1).map fun d => (.bool d, q.2) := nr rfl
@[simp] theorem e_cmp2 {o1 o2 : CmpOp} {a b d : Tm} : evE c (.cmp2 o1 o2 a b d) Γ S = (evE c a Γ S).bind fun p => (evE c b Γ p.2).bind fun q => (cmpD o1 p.1 q.1).bind fun t => cond t ((evE c d Γ q.2).bind fun r => (cmpD o2 q.1 r.1).map fun t => (.bool t, r.2)) (some (.bool false, q.2)) := by
  show ((evE c a Γ S).bind fun p => (evE c b Γ p.2).bind fun q => (cmpD o1 p.1 q.1).bind fun t => match t with
    | false => some (PyData.bool false, q.2)
    | true => (evE c d Γ q.2).bind fun r => (cmpD o2 q.1 r.1).map fun t => (PyData.bool t, r.2)) = _
  congr 1; funext p; congr 1; funext q; congr 1; funext t; cases t <;> rfl
@[simp] theorem e_isc {ng : Bool} {a : Tm} {k : Option Bool} : evE c (.isc ng a k) Γ S = (evE c a Γ S).bind fun p => (isD p.1 k).map fun t => (.bool (xor ng t), p.2) := nr rfl
@[simp] theorem e_ino {ng : Bool} {a : Tm} {i : Nat} : evE c (.ino ng a i) Γ S = (evE c a Γ S).bind fun p => (rdO Γ p.2 i).bind fun o => (cmpD (cond ng .NotIn .In) p.1 o).map fun t => (.bool t, p.2) := nr rfl
@[simp] theorem e_boo {op : BoolOp} {as : Ts} : evE c (.boo op as) Γ S = evB c op as Γ S := nr rfl
@[simp] theorem b_one {op : BoolOp} {a : Tm} : evB c op (.cons a .nil) Γ S = evE c a Γ S := nr rfl
@[simp] theorem b_and {a b : Tm} {as : Ts} : evB c .And (.cons a (.cons b as)) Γ S = (evE c a Γ S).bind fun p => (boolD p.1).bind fun t => cond t (evB c .And (.cons b as) Γ p.2) (some (.bool false, p.2)) := nr rfl
@[simp] theorem b_or {a b : Tm} {as : Ts} : evB c .Or (.cons a (.cons b as)) Γ S = (evE c a Γ S).bind fun p => (boolD p.1).bind fun t => cond t (some (.bool true, p.2)) (evB c .Or (.cons b as) Γ p.2) := nr rfl
@[simp] theorem e_not {a : Tm} : evE c (.not a) Γ S = (evE c a Γ S).bind fun p => (boolD p.1).map fun b => (.bool (!b), p.2) := nr rfl
@[simp] theorem e_ite {k a b : Tm} : evE c (.ite k a b) Γ S = (evE c k Γ S).bind fun p => (boolD p.1).bind fun t => cond t (evE c a Γ p.2) (evE c b Γ p.2) := nr rfl
@[simp] theorem e_ix {a b : Tm} : evE c (.ix a b) Γ S = (evE c a Γ S).bind fun p => (evE c b Γ p.2).bind fun q => (ixD p.1 q.1).map fun d => (d, q.2) := nr rfl
@[simp] theorem e_ixo {i : Nat} {b : Tm} : evE c (.ixo i b) Γ S = (evE c b Γ S).bind fun q => (rdO Γ q.2 i).bind fun o => (ixD o q.1).map fun d => (d, q.2) := nr rfl
@[simp] theorem e_sl {a : Tm} {lo hi : Os} : evE c (.sl a lo hi) Γ S = (evE c a Γ S).bind fun p => (evO c lo Γ p.2).bind fun l => (evO c hi Γ l.2).bind fun h => (slD p.1 l.1 h.1).map fun d => (d, h.2) := nr rfl
@[simp] theorem e_tup {as : Ts} : evE c (.tup as) Γ S = (evs c as Γ S).bind fun p => if p.1.length ≤ 16777216 then some (.tuple p.1, p.2) else none := nr rfl
@[simp] theorem e_lst {as : Ts} : evE c (.lst as) Γ S = (evs c as Γ S).bind fun p => if p.1.length ≤ 16777216 then some (.list p.1, p.2) else none := nr rfl
@[simp] theorem e_dic0 : evE c .dic0 Γ S = some (.dict [], S) := nr rfl
@[simp] theorem e_dic1 {k v : Tm} : evE c (.dic1 k v) Γ S = (evE c k Γ S).bind fun p => (evE c v Γ p.2).bind fun q => match p.1 with
    | .tuple ks => (keyOf (.tuple ks)).bind fun y => if y.depth ≤ 8 then some (.dict [(.tuple ks, q.1)], q.2) else none
    | _ => none := nr rfl
@[simp] theorem e_bi {f : Bi} {a : Tm} : evE c (.bi f a) Γ S = (evE c a Γ S).bind fun p => (biD f p.1).map fun d => (d, p.2) := nr rfl
@[simp] theorem e_bio {f : Bi} {i : Nat} : evE c (.bio f i) Γ S = (rdO Γ S i).bind fun o => (biD f o).map fun d => (d, S) := nr rfl
@[simp] theorem e_bj {f : Bj} {a b : Tm} : evE c (.bj f a b) Γ S = (evE c a Γ S).bind fun p => (evE c b Γ p.2).bind fun q => (bjD f p.1 q.1).map fun d => (d, q.2) := nr rfl
@[simp] theorem e_isa {a : Tm} {t : Ty} : evE c (.isa a t) Γ S = (evE c a Γ S).bind fun p => some (.bool (isaD p.1 t), p.2) := nr rfl
@[simp] theorem e_sset {a : Tm} : evE c (.sset a) Γ S = (evE c a Γ S).bind fun p => (ssetD p.1).map fun d => (d, p.2) := nr rfl
@[simp] theorem e_lrg {as : Ts} : evE c (.lrg as) Γ S = (evs c as Γ S).bind fun p => (lrgD p.1).map fun d => (.list d, p.2) := nr rfl
@[simp] theorem e_vmx {a : Tm} : evE c (.vmx a) Γ S = (evE c a Γ S).bind fun p => (vmxD p.1).map fun d => (d, p.2) := nr rfl
@[simp] theorem e_dic {a : Tm} : evE c (.dic a) Γ S = (evE c a Γ S).bind fun p => (dicD p.1).map fun d => (d, p.2) := nr rfl
@[simp] theorem e_get {a k x : Tm} : evE c (.get a k x) Γ S = (evE c a Γ S).bind fun p => (evE c k Γ p.2).bind fun q => (evE c x Γ q.2).bind fun r => (getD' p.1 q.1 r.1).map fun d => (d, r.2) := nr rfl
@[simp] theorem e_geto {i : Nat} {k x : Tm} : evE c (.geto i k x) Γ S = (evE c k Γ S).bind fun q => (evE c x Γ q.2).bind fun r => (rdO Γ r.2 i).bind fun o => (getD' o q.1 r.1).map fun d => (d, r.2) := nr rfl
@[simp] theorem e_upper {a : Tm} : evE c (.upper a) Γ S = (evE c a Γ S).bind fun p => (upD p.1).map fun d => (d, p.2) := nr rfl
theorem bind_map_fn {n f : Nat} {ds : List PyData} {β : Type} (F : PyData → β) : ((cfN n).fn f).bind (fun g => (g ds).map F) = (Fn n f ds).map F := by
  unfold Fn
  cases (cfN n).fn f <;> rfl
@[simp] theorem e_call {f : Nat} {as : Ts} : evE (cfN n) (.call f as) Γ S = (evs (cfN n) as Γ S).bind fun p => (Fn n f p.1).map fun d => (d, p.2) := by
  show ((evs (cfN n) as Γ S).bind fun p => ((cfN n).fn f).bind fun g => (g p.1).map fun d => (d, p.2)) = _
  congr 1; funext p; exact bind_map_fn _
@[simp] theorem e_callK {f : Nat} {as : Ts} : evE (cfN n) (.callK f as) Γ S = (evs (cfN n) as Γ S).bind fun p => (Fn n f p.1.reverse).map fun d => (d, p.2) := by
  show ((evs (cfN n) as Γ S).bind fun p => ((cfN n).fn f).bind fun g => (g p.1.reverse).map fun d => (d, p.2)) = _
  congr 1; funext p; exact bind_map_fn _
@[simp] theorem e_callP {f i : Nat} {as : Ts} : evE (cfN n) (.callP f i as) Γ S = match Γ[i]? with
    | some (some .pool) => (evs (cfN n) as Γ S).bind fun p => Pf n f p.1 p.2
    | _ => none := nr rfl
@[simp] theorem w_nil : wipeG Γ [] = Γ := nr rfl
@[simp] theorem w_cons {v : Nat} {vs : List Nat} : wipeG Γ (v :: vs) = (wipeG Γ vs).set v none := nr rfl
@[simp] theorem s_nil : evs c .nil Γ S = some ([], S) := nr rfl
@[simp] theorem s_cons {a : Tm} {as : Ts} : evs c (.cons a as) Γ S = (evE c a Γ S).bind fun p => (evs c as Γ p.2).bind fun q => some (p.1 :: q.1, q.2) := nr rfl
@[simp] theorem o_no : evO c .no Γ S = some (none, S) := nr rfl
@[simp] theorem o_so {a : Tm} : evO c (.so a) Γ S = (evE c a Γ S).bind fun p => (intD p.1).map fun i => (some i, p.2) := nr rfl
@[simp] theorem c_no : evC c .no Γ S = some (true, S) := nr rfl
@[simp] theorem c_so {a : Tm} : evC c (.so a) Γ S = (evE c a Γ S).bind fun p => (boolD p.1).map fun i => (i, p.2) := nr rfl
@[simp] theorem i_seq {a : Tm} : evI c (.seq a) Γ S = (evE c a Γ S).bind fun p => (seqD p.1).map fun xs => (xs, p.2) := nr rfl
@[simp] theorem i_rng1 {a : Tm} : evI c (.rng1 a) Γ S = (evE c a Γ S).bind fun p => (rgD [p.1]).map fun xs => (xs, p.2) := nr rfl
@[simp] theorem i_rng2 {a b : Tm} : evI c (.rng2 a b) Γ S = (evE c a Γ S).bind fun p => (evE c b Γ p.2).bind fun q => (rgD [p.1, q.1]).map fun xs => (xs, q.2) := nr rfl
@[simp] theorem i_enum {a : Tm} : evI c (.enum a) Γ S = (evE c a Γ S).bind fun p => (seqD p.1).map fun xs => (xs.mapIdx fun i x => .tuple [.int i, x], p.2) := nr rfl
@[simp] theorem i_zip {a b : Tm} : evI c (.zip a b) Γ S = (evE c a Γ S).bind fun p => (evE c b Γ p.2).bind fun q => match p.1, q.1 with
    | .list xs, .list ys => some (xs.zipWith (fun x y => .tuple [x, y]) ys, q.2)
    | .tuple xs, .tuple ys => some (xs.zipWith (fun x y => .tuple [x, y]) ys, q.2)
    | _, _ => none := nr rfl
@[simp] theorem i_dic {a : Tm} : evI c (.dic a) Γ S = (evE c a Γ S).bind fun p => match p.1 with
    | .dict kvs => some (kvs.map (·.1), p.2)
    | _ => none := nr rfl
/-- a comprehension's step, a loop's step -/
def lcS (c : Cf) (Γ : Gm) (elt : Tm) (tg : Tg) (ifs : Os) (own : List Nat) : PyData → Pl → Option (List PyData × Pl) := fun x S => (bindG tg x (wipeG Γ own) S).bind fun b => (evC c ifs b.1 b.2).bind fun t =>
      cond t.1 ((evE c elt b.1 t.2).bind fun y => some ([y.1], y.2)) (some ([], t.2))
def forS (c : Cf) (tg : Tg) (b : Ss) : PyData → Gm → Pl → Option Out := fun x Γ S => (bindG tg x Γ S).bind fun q => evSs c b q.1 q.2
@[simp] theorem e_lc {elt : Tm} {tg : Tg} {it : Im} {ifs : Os} {own : List Nat} : evE c (.lc elt tg it ifs own) Γ S = (evI c it Γ S).bind fun p => (lcRun (lcS c Γ elt tg ifs own) p.1 p.2 []).bind fun q => some (.list q.1, q.2) := nr rfl
-- statements
@[simp] theorem x_set {i : Nat} {e : Tm} : evS c (.set i e) Γ S = (evE c e Γ S).bind fun p => if i < Γ.length then some (.nx (Γ.set i (some (.d p.1))) p.2) else none := nr rfl
@[simp] theorem x_setLc {i : Nat} {e : Tm} : evS c (.setLc i e) Γ S = (evE c e Γ S).bind fun p => if i < Γ.length then some (.nx (Γ.set i (some (.d p.1))) p.2) else none := nr rfl
@[simp] theorem x_own {i : Nat} {e : Tm} : evS c (.own i e) Γ S = (evE c e Γ S).bind fun p => if i < Γ.length then (match p.1 with
    | .list xs => some (.nx (Γ.set i (some (.ownL xs))) p.2)
    | .dict kvs => some (.nx (Γ.set i (some (.ownD kvs))) p.2)
    | _ => none) else none := nr rfl
@[simp] theorem x_par {is : List Nat} {as : Ts} : evS c (.par is as) Γ S = (evs c as Γ S).bind fun p => (setN Γ is p.1).map fun Γ' => .nx Γ' p.2 := nr rfl
@[simp] theorem x_asg {tg : Tg} {e : Tm} : evS c (.asg tg e) Γ S = (evE c e Γ S).bind fun p => (bindG tg p.1 Γ p.2).map fun q => .nx q.1 q.2 := nr rfl
@[simp] theorem x_aug {i : Nat} {e : Tm} : evS c (.aug i e) Γ S = (gv Γ i).bind fun x => (evE c e Γ S).bind fun p => (intD x).bind fun a => (intD p.1).map fun b => .nx (Γ.set i (some (.d (.int (a + b))))) p.2 := by
  show (match Γ[i]? with
    | some (some (.d x)) => (evE c e Γ S).bind fun p => (intD x).bind fun a => (intD p.1).map fun b => Out.nx (Γ.set i (some (.d (.int (a + b))))) p.2
    | _ => none) = _
  unfold gv
  split <;> rfl
@[simp] theorem x_put {i : Nat} {k v : Tm} : evS c (.put i k v) Γ S = (evE c v Γ S).bind fun p => (evE c k Γ p.2).bind fun q => match Γ[i]?, q.1 with
    | some (some (.ownD kvs)), .tuple ks => (keyOf (.tuple ks)).bind fun y => if y.depth ≤ 8 ∧ kvs.length < 16777216 then some (.nx (Γ.set i (some (.ownD (storeD kvs y p.1)))) q.2) else none
    | _, _ => none := nr rfl
@[simp] theorem x_app {i : Nat} {e : Tm} : evS c (.app i e) Γ S = (evE c e Γ S).bind fun p => match Γ[i]? with
    | some (some (.ownL xs)) => if xs.length < 16777216 then some (.nx (Γ.set i (some (.ownL (xs ++ [p.1])))) p.2) else none
    | _ => none := nr rfl
@[simp] theorem x_ext {i : Nat} {as : Ts} : evS c (.ext i as) Γ S = (evs c as Γ S).bind fun p => match Γ[i]? with
    | some (some (.ownL xs)) => if xs.length + p.1.length ≤ 16777216 then some (.nx (Γ.set i (some (.ownL (xs ++ p.1)))) p.2) else none
    | _ => none := nr rfl
@[simp] theorem x_ret {e : Tm} : evS c (.ret e) Γ S = (evE c e Γ S).bind fun p => some (.rt p.1 p.2) := nr rfl
@[simp] theorem x_reto {i : Nat} : evS c (.reto i) Γ S = match Γ[i]? with
    | some (some (.ownL xs)) => some (.rt (.list xs) S)
    | some (some (.ownD xs)) => some (.rt (.dict xs) S)
    | _ => none := nr rfl
@[simp] theorem x_ife {k : Tm} {a b : Ss} : evS c (.ife k a b) Γ S = (evE c k Γ S).bind fun p => (boolD p.1).bind fun t => cond t (evSs c a Γ p.2) (evSs c b Γ p.2) := nr rfl
@[simp] theorem x_for {tg : Tg} {it : Im} {b : Ss} : evS c (.for_ tg it b) Γ S = (evI c it Γ S).bind fun p => forRun (forS c tg b) p.1 Γ p.2 := nr rfl
@[simp] theorem x_foro {tg : Tg} {i : Nat} {b : Ss} : evS c (.foro tg i b) Γ S = match Γ[i]? with
    | some (some (.ownL xs)) => forRun (forS c tg b) xs (Γ.set i (some (.d (.list xs)))) S
    | _ => none := nr rfl
@[simp] theorem x_whl {n : Nat} {k : Tm} {b : Ss} : evS c (.whl n k b) Γ S = whlRun (evE c k) (evSs c b) n Γ S := nr rfl
@[simp] theorem x_brk : evS c .brk Γ S = some (.bk Γ S) := nr rfl
@[simp] theorem x_nil : evSs c .nil Γ S = some (.nx Γ S) := nr rfl
@[simp] theorem x_cons {s : Sm} {r : Ss} : evSs c (.cons s r) Γ S = (evS c s Γ S).bind fun o => o.thn (evSs c r) := nr rfl
@[simp] theorem thn_nx {f : Gm → Pl → Option Out} : (Out.nx Γ S).thn f = f Γ S := nr rfl
@[simp] theorem thn_rt {d : PyData} {f : Gm → Pl → Option Out} : (Out.rt d S).thn f = some (.rt d S) := nr rfl
@[simp] theorem thn_bk {f : Gm → Pl → Option Out} : (Out.bk Γ S).thn f = some (.bk Γ S) := nr rfl
@[simp] theorem val_rt {d : PyData} : (Out.rt d S).val = some (d, S) := nr rfl
@[simp] theorem val_nx : (Out.nx Γ S).val = some (.none, S) := nr rfl
@[simp] theorem bg_nm {i : Nat} {x : PyData} : bindG (.nm i) x Γ S = if i < Γ.length then some (Γ.set i (some (.d x)), S) else none := nr rfl
@[simp] theorem bg_tp {gs : Tgs} {xs : List PyData} : bindG (.tp gs) (.tuple xs) Γ S = bindGs gs xs Γ S := nr rfl
@[simp] theorem bgs_nil : bindGs .nil [] Γ S = some (Γ, S) := nr rfl
@[simp] theorem bgs_cons {g : Tg} {gs : Tgs} {x : PyData} {xs : List PyData} : bindGs (.cons g gs) (x :: xs) Γ S = (bindG g x Γ S).bind fun p => bindGs gs xs p.1 p.2 := nr rfl
end
@[simp] theorem boolD_b {b : Bool} : boolD (.bool b) = some b := nr rfl
@[simp] theorem intD_i {b : Int} : intD (.int b) = some b := nr rfl

/-! ### operations on data -/
section
variable {i j : Int} {xs ys : List PyData} {d : PyData}
@[simp] theorem cmp_lt : cmpD .Lt (.int i) (.int j) = some (decide (i < j)) := nr rfl
@[simp] theorem cmp_le : cmpD .LtE (.int i) (.int j) = some (decide (i ≤ j)) := nr rfl
@[simp] theorem cmp_gt : cmpD .Gt (.int i) (.int j) = some (decide (j < i)) := nr rfl
@[simp] theorem cmp_ge : cmpD .GtE (.int i) (.int j) = some (decide (j ≤ i)) := nr rfl
@[simp] theorem cmp_eq : cmpD .Eq (.int i) (.int j) = some (decide (i = j)) := nr rfl
@[simp] theorem cmp_ne : cmpD .NotEq (.int i) (.int j) = some (!decide (i = j)) := nr rfl
theorem atI_nat {α : Type} (xs : List α) (k : Nat) : atI xs (k : Int) = xs[k]? := by
  unfold atI ixN
  rw [if_pos (by omega)]
  by_cases h : k < xs.length
  · rw [if_pos (by omega)]; simp
  · rw [if_neg (by omega)]; simp; omega
theorem atI_neg {α : Type} (xs : List α) (k : Nat) (h : k < xs.length) : atI xs (-(k + 1 : Nat) : Int) = xs[xs.length - (k + 1)]? := by
  unfold atI ixN
  rw [if_neg (by omega), if_pos (by omega)]
  simp only [Option.bind_some]
  congr 1
  omega
@[simp] theorem atI_0 {α : Type} (xs : List α) : atI xs 0 = xs[0]? := atI_nat xs 0
@[simp] theorem atI_1 {α : Type} (xs : List α) : atI xs 1 = xs[1]? := atI_nat xs 1
@[simp] theorem atI_2 {α : Type} (xs : List α) : atI xs 2 = xs[2]? := atI_nat xs 2
@[simp] theorem atI_3 {α : Type} (xs : List α) : atI xs 3 = xs[3]? := atI_nat xs 3
@[simp] theorem atI_4 {α : Type} (xs : List α) : atI xs 4 = xs[4]? := atI_nat xs 4
@[simp] theorem atI_5 {α : Type} (xs : List α) : atI xs 5 = xs[5]? := atI_nat xs 5
@[simp] theorem atI_6 {α : Type} (xs : List α) : atI xs 6 = xs[6]? := atI_nat xs 6
theorem atI_snoc {α : Type} (xs : List α) (a : α) : atI (xs ++ [a]) (-1) = some a := by
  have := atI_neg (xs ++ [a]) 0 (by simp)
  simpa using this
@[simp] theorem ix_t : ixD (.tuple xs) (.int i) = atI xs i := nr rfl
@[simp] theorem ix_l : ixD (.list xs) (.int i) = atI xs i := nr rfl
@[simp] theorem bin_add : binD .Add (.int i) (.int j) = some (.int (i + j)) := nr rfl
@[simp] theorem bin_sub : binD .Sub (.int i) (.int j) = some (.int (i - j)) := nr rfl
@[simp] theorem bin_addt : binD .Add (.tuple xs) (.tuple ys) = if xs.length + ys.length ≤ 16777216 then some (.tuple (xs ++ ys)) else none := nr rfl
@[simp] theorem bin_addl : binD .Add (.list xs) (.list ys) = if xs.length + ys.length ≤ 16777216 then some (.list (xs ++ ys)) else none := nr rfl
@[simp] theorem bin_mul : binD .Mult (.int i) (.int j) = if mulB i j then some (.int (i * j)) else none := nr rfl
@[simp] theorem bin_fdiv : binD .FloorDiv (.int i) (.int j) = if 0 < j ∧ j < 1073741824 then some (.int (i / j)) else none := nr rfl
@[simp] theorem bin_mod : binD .Mod (.int i) (.int j) = if 0 < j then some (.int (i % j)) else none := nr rfl
@[simp] theorem bj_mx : bjD .mx (.int i) (.int j) = some (.int (max i j)) := nr rfl
@[simp] theorem bj_mn : bjD .mn (.int i) (.int j) = some (.int (min i j)) := nr rfl
@[simp] theorem bj_dm : bjD .dm (.int i) (.int j) = if 0 < j ∧ j < 1073741824 then some (.tuple [.int (i / j), .int (i % j)]) else none := nr rfl
@[simp] theorem len_t : biD .len (.tuple xs) = some (.int xs.length) := nr rfl
@[simp] theorem len_l : biD .len (.list xs) = some (.int xs.length) := nr rfl
@[simp] theorem len_d {kvs : List (PyData × PyData)} : biD .len (.dict kvs) = some (.int kvs.length) := nr rfl
@[simp] theorem int_i : biD .int (.int i) = some (.int i) := nr rfl
@[simp] theorem all_l : biD .all (.list xs) = (boolsD xs).map fun bs => .bool (bs.all id) := nr rfl
@[simp] theorem tuple_l : biD .tuple (.list xs) = some (.tuple xs) := nr rfl
@[simp] theorem list_l : biD .list (.list xs) = some (.list xs) := nr rfl
@[simp] theorem list_t : biD .list (.tuple xs) = some (.list xs) := nr rfl
@[simp] theorem seq_t : seqD (.tuple xs) = some xs := nr rfl
@[simp] theorem seq_l : seqD (.list xs) = some xs := nr rfl
@[simp] theorem is_n : isD .none none = some true := nr rfl
@[simp] theorem is_i : isD (.int i) none = some false := nr rfl
@[simp] theorem is_b {b : Bool} : isD (.bool b) none = some false := nr rfl
@[simp] theorem is_s {x : Str} : isD (.str x) none = some false := nr rfl
@[simp] theorem is_t : isD (.tuple xs) none = some false := nr rfl
@[simp] theorem is_l : isD (.list xs) none = some false := nr rfl
@[simp] theorem is_d {kvs : List (PyData × PyData)} : isD (.dict kvs) none = some false := nr rfl
@[simp] theorem is_bb {b c : Bool} : isD (.bool b) (some c) = some (decide (b = c)) := nr rfl
@[simp] theorem gl0 : glD 0 = .int 2 := nr rfl
@[simp] theorem gl1 : glD 1 = .int 4 := nr rfl
@[simp] theorem gl2 : glD 2 = .int 12 := nr rfl
@[simp] theorem gl3 : glD 3 = .int 12 := nr rfl
@[simp] theorem gl4 : glD 4 = .int 3 := nr rfl
@[simp] theorem gl5 : glD 5 = .int 2 := nr rfl
@[simp] theorem gl6 : glD 6 = .int 16 := nr rfl
@[simp] theorem gl7 : glD 7 = .int 1000000000 := nr rfl
@[simp] theorem gl8 : glD 8 = .tuple [.int 0, .int 0, .int 0] := nr rfl
@[simp] theorem isa_tt : isaD (.tuple xs) .tuple = true := nr rfl
@[simp] theorem isa_ti : isaD (.int i) .tuple = false := nr rfl
@[simp] theorem isa_tn : isaD .none .tuple = false := nr rfl
@[simp] theorem isa_ts {x : Str} : isaD (.str x) .tuple = false := nr rfl
@[simp] theorem isa_tb {b : Bool} : isaD (.bool b) .tuple = false := nr rfl
@[simp] theorem isa_tl : isaD (.list xs) .tuple = false := nr rfl
@[simp] theorem isa_td {kvs : List (PyData × PyData)} : isaD (.dict kvs) .tuple = false := nr rfl
theorem mulB_l (h1 : -(2 ^ 64) < i) (h2 : i < 2 ^ 64) : mulB i j = true := decide_eq_true (.inl ⟨h1, h2⟩)
theorem mulB_r (h1 : -(2 ^ 64) < j) (h2 : j < 2 ^ 64) : mulB i j = true := decide_eq_true (.inr ⟨h1, h2⟩)
end
end K26.Q
namespace K26.Q
open PySem L2
def isI : PyData → Bool
  | .int _ => true
  | _ => false
theorem F0 (n : Nat) (d : PyData) : Fn (n + 1) 0 [d] = some (.bool (isI d)) := by
  rw [Fn_run (D := d_is_integer) n 0 _ rfl (by decide) rfl rfl rfl]
  cases d <;> simp [DefT.run, d_is_integer, t_is_integer, n_is_integer, isaD, isI]
def inI (lo hi : Int) : PyData → Bool
  | .int i => decide (lo ≤ i) && decide (i ≤ hi)
  | _ => false
theorem F1 (n : Nat) (d : PyData) (lo hi : Int) : Fn (n + 2) 1 [d, .int lo, .int hi] = some (.bool (inI lo hi d)) := by
  rw [Fn_run (D := d_is_within) (n + 1) 1 _ rfl (by decide) rfl rfl rfl]
  cases d <;> simp [DefT.run, d_is_within, t_is_within, n_is_within, F0, isI, inI, cmpD]
  rename_i i
  by_cases h : lo ≤ i <;> simp [h]
def isU : PyData → Bool
  | .int i => decide (0 ≤ i)
  | _ => false
theorem F2 (n : Nat) (d : PyData) : Fn (n + 2) 2 [d] = some (.bool (isU d)) := by
  rw [Fn_run (D := d_is_use) (n + 1) 2 _ rfl (by decide) rfl rfl rfl]
  cases d <;> simp [DefT.run, d_is_use, t_is_use, n_is_use, F0, isI, isU, cmpD]

theorem lcRun_map {f : PyData → Pl → Option (List PyData × Pl)} {h : PyData → PyData} {S : Pl} : ∀ (xs acc : List PyData), (∀ x ∈ xs, f x S = some ([h x], S)) → acc.length + xs.length ≤ 16777216 → lcRun f xs S acc = some (acc ++ xs.map h, S)
  | [], acc, _, _ => by simp [lcRun]
  | x :: xs, acc, hf, hl => by
    unfold lcRun; rw [show SL = 16777216 from rfl]
    rw [hf x (by simp)]
    simp only [List.length_cons] at hl
    simp only [Option.bind_some, List.length_singleton]
    rw [if_pos (by omega), lcRun_map xs _ (fun y hy => hf y (by simp [hy])) (by simp; omega)]
    simp
theorem lcRun_fil {f : PyData → Pl → Option (List PyData × Pl)} {p : PyData → Bool} {S : Pl} : ∀ (xs acc : List PyData), (∀ x ∈ xs, f x S = some (cond (p x) [x] [], S)) → acc.length + xs.length ≤ 16777216 → lcRun f xs S acc = some (acc ++ xs.filter p, S)
  | [], acc, _, _ => by simp [lcRun]
  | x :: xs, acc, hf, hl => by
    unfold lcRun; rw [show SL = 16777216 from rfl]
    rw [hf x (by simp)]
    simp only [List.length_cons] at hl
    have ih := fun acc h => lcRun_fil (f := f) (p := p) (S := S) xs acc (fun y hy => hf y (by simp [hy])) h
    cases hp : p x
    · simp only [Option.bind_some, cond, List.length_nil]
      rw [if_pos (by omega), ih _ (by simp; omega)]
      simp [hp]
    · simp only [Option.bind_some, cond, List.length_singleton]
      rw [if_pos (by omega), ih _ (by simp; omega)]
      simp [hp]
@[simp] theorem lcRun_map' {h : PyData → PyData} {S : Pl} {xs : List PyData} : lcRun (fun x S => some ([h x], S)) xs S [] = if xs.length ≤ 16777216 then some (xs.map h, S) else none := by
  split
  · rename_i hl
    rw [lcRun_map (h := h) xs [] (fun _ _ => rfl) (by simpa using hl)]
    simp
  · rename_i hl
    have : ∀ (xs acc : List PyData), ¬ acc.length + xs.length ≤ 16777216 → acc.length ≤ 16777216 → lcRun (fun x S => some ([h x], S)) xs S acc = none := by
      intro xs
      induction xs with
      | nil => intro acc h1 h2; exact absurd (by simpa using h2) h1
      | cons x xs ih =>
        intro acc h1 h2
        unfold lcRun; rw [show SL = 16777216 from rfl]
        simp only [Option.bind_some, List.length_singleton]
        split
        · rename_i q
          exact ih _ (by simp at h1 ⊢; omega) (by simpa using q)
        · rfl
    exact this xs [] (by simpa using hl) (by simp)
@[simp] theorem boolsD_map (p : PyData → Bool) (xs : List PyData) : boolsD (xs.map fun x => .bool (p x)) = some (xs.map p) := by
  induction xs with
  | nil => rfl
  | cons x xs ih => simp [boolsD, ih]
theorem forRun_opt {β : Type} {R : β → Gm → Prop} {step : β → PyData → Option β} {S : Pl} {bad : PyData} {f : PyData → Gm → Pl → Option Out} : ∀ (xs : List PyData)
    (h : ∀ b Γ x, x ∈ xs → R b Γ → match step b x with | none => f x Γ S = some (.rt bad S) | some b' => ∃ Γ', f x Γ S = some (.nx Γ' S) ∧ R b' Γ') (b : β) (Γ : Gm), R b Γ →
    match xs.foldlM step b with | none => forRun f xs Γ S = some (.rt bad S) | some b' => ∃ Γ', forRun f xs Γ S = some (.nx Γ' S) ∧ R b' Γ'
  | [], _, b, Γ, r => ⟨Γ, rfl, r⟩
  | x :: xs, h, b, Γ, r => by
    have h1 := h b Γ x (by simp) r
    rw [List.foldlM_cons]
    unfold forRun
    cases e : step b x with
    | none => rw [e] at h1; simp [h1]
    | some b' =>
      rw [e] at h1
      obtain ⟨Γ', h2, h3⟩ := h1
      have := forRun_opt xs (fun b Γ y hy => h b Γ y (by simp [hy])) b' Γ' h3
      simpa [h2] using this
theorem forRun_fold {β : Type} {R : β → Gm → Prop} {step : β → PyData → β} {S : Pl} {f : PyData → Gm → Pl → Option Out} (xs : List PyData)
    (h : ∀ b Γ x, x ∈ xs → R b Γ → ∃ Γ', f x Γ S = some (.nx Γ' S) ∧ R (step b x) Γ') (b : β) (Γ : Gm) (r : R b Γ) : ∃ Γ', forRun f xs Γ S = some (.nx Γ' S) ∧ R (xs.foldl step b) Γ' := by
  have := forRun_opt (R := R) (step := fun b x => some (step b x)) (S := S) (bad := .none) (f := f) xs (fun b Γ x hx r => h b Γ x hx r) b Γ r
  have e : xs.foldlM (m := Option) (fun b x => some (step b x)) b = some (xs.foldl step b) := by
    clear this h r
    induction xs generalizing b with
    | nil => rfl
    | cons x xs ih => rw [List.foldlM_cons, List.foldl_cons]; simpa using ih _
  rw [e] at this
  exact this
theorem lc_map {f : PyData → Pl → Option (List PyData × Pl)} {h : PyData → PyData} {S : Pl} {xs : List PyData} {o : Option (List PyData × Pl)} (hF : lcRun f xs S [] = o) (hf : ∀ x ∈ xs, f x S = some ([h x], S)) (hl : xs.length ≤ 16777216) : o = some (xs.map h, S) := by
  rw [← hF, lcRun_map xs [] hf (by simpa using hl)]
  simp
theorem lc_fil {f : PyData → Pl → Option (List PyData × Pl)} {p : PyData → Bool} {S : Pl} {xs : List PyData} {o : Option (List PyData × Pl)} (hF : lcRun f xs S [] = o) (hf : ∀ x ∈ xs, f x S = some (cond (p x) [x] [], S)) (hl : xs.length ≤ 16777216) : o = some (xs.filter p, S) := by
  rw [← hF, lcRun_fil xs [] hf (by simpa using hl)]
  simp
def szL (d : PyData) : Prop := ∀ xs, d = .tuple xs → xs.length ≤ 16777216
def usB : PyData → Bool
  | .tuple xs => xs.all isU
  | _ => false
theorem all_map_id (p : PyData → Bool) (xs : List PyData) : (xs.map p).all id = xs.all p := by simp [List.all_map]
theorem F3 (n : Nat) (d : PyData) (h : szL d) : Fn (n + 3) 3 [d] = some (.bool (usB d)) := by
  rw [Fn_run (D := d_are_uses) (n + 2) 3 _ rfl (by decide) rfl rfl rfl]
  cases d with
  | tuple xs =>
    have h := h xs rfl
    simp [DefT.run, d_are_uses, t_are_uses, n_are_uses, usB]
    generalize hF : lcRun _ _ _ _ = o
    rw [lc_map (h := fun x => .bool (isU x)) hF (fun x hx => by simp [lcS, F2]) h]
    simp [List.all_map]
  | _ => simp [DefT.run, d_are_uses, t_are_uses, n_are_uses, F2, usB, isaD]

theorem for_opt {β : Type} {R : β → Gm → Prop} {step : β → PyData → Option β} {S : Pl} {bad : PyData} {f : PyData → Gm → Pl → Option Out} {xs : List PyData} {o : Option Out} {Γ : Gm} (b : β) (hF : forRun f xs Γ S = o)
    (h : ∀ b Γ x, x ∈ xs → R b Γ → match step b x with | none => f x Γ S = some (.rt bad S) | some b' => ∃ Γ', f x Γ S = some (.nx Γ' S) ∧ R b' Γ') (r : R b Γ) :
    match xs.foldlM step b with | none => o = some (.rt bad S) | some b' => ∃ Γ', o = some (.nx Γ' S) ∧ R b' Γ' := by
  subst hF
  exact forRun_opt xs h b Γ r
theorem for_fold {β : Type} {R : β → Gm → Prop} {step : β → PyData → β} {S : Pl} {f : PyData → Gm → Pl → Option Out} {xs : List PyData} {o : Option Out} {Γ : Gm} (b : β) (hF : forRun f xs Γ S = o)
    (h : ∀ b Γ x, x ∈ xs → R b Γ → ∃ Γ', f x Γ S = some (.nx Γ' S) ∧ R (step b x) Γ') (r : R b Γ) : ∃ Γ', o = some (.nx Γ' S) ∧ R (xs.foldl step b) Γ' := by
  subst hF
  exact forRun_fold xs h b Γ r
end K26.Q
namespace K26.Q
open PySem L2
def prU : PyData → Bool
  | .tuple [.int a, .int b] => decide (0 ≤ a) && decide (0 ≤ b) && decide (a ≤ b)
  | _ => false
def prB : PyData → Bool
  | .tuple xs => xs.all prU
  | _ => false
theorem prU_us {d : PyData} (h : usB d = false) : prU d = false := by
  unfold prU
  split
  · rename_i a b
    simp [usB, isU] at h ⊢
    intro h1 h2
    have := h h1
    omega
  · rfl
theorem F4 (n : Nat) (d : PyData) (h : szL d) (h' : ∀ xs, d = .tuple xs → ∀ x ∈ xs, szL x) : Fn (n + 4) 4 [d] = some (.bool (prB d)) := by
  rw [Fn_run (D := d_are_pairs) (n + 3) 4 _ rfl (by decide) rfl rfl rfl]
  cases d with
  | tuple xs =>
    have h := h xs rfl
    have h' := h' xs rfl
    simp [DefT.run, d_are_pairs, t_are_pairs, n_are_pairs, prB]
    generalize hF : lcRun _ _ _ _ = o
    rw [lc_map (h := fun x => .bool (prU x)) hF (fun x hx => ?_) h]
    · simp [List.all_map]
    · simp [lcS, F3 n x (h' x hx)]
      cases hu : usB x with
      | false => simp [prU_us hu]
      | true =>
        obtain ⟨ys, rfl⟩ : ∃ ys, x = .tuple ys := by
          cases x <;> simp [usB] at hu
          exact ⟨_, rfl⟩
        match ys with
        | [] => simp [prU]
        | [a] => simp [prU]
        | [a, b] =>
          simp only [usB, List.all_cons, List.all_nil, Bool.and_true, Bool.and_eq_true] at hu
          obtain ⟨i, rfl⟩ : ∃ i, a = .int i := by
            cases a <;> simp [isU] at hu
            exact ⟨_, rfl⟩
          obtain ⟨j, rfl⟩ : ∃ i, b = .int i := by
            cases b <;> simp [isU] at hu
            exact ⟨_, rfl⟩
          simp [isU] at hu
          simp [prU, hu]
        | a :: b :: c :: r =>
          have hne : ¬ ((r.length : Int) + 1 + 1 + 1 = 2) := by omega
          simp [prU, hne]
  | _ => simp [DefT.run, d_are_pairs, t_are_pairs, n_are_pairs, prB]
def tierS (b : Int × Int) : PyData → Option (Int × Int)
  | .tuple [.int f, p] => if inI b.1 b.2 (.int f) && inI 0 1000000000 p then some (f + 1, 12) else none
  | _ => none
def tiersB : PyData → Bool
  | .tuple xs => decide (1 ≤ xs.length) && decide (xs.length ≤ 4) && (xs.foldlM tierS (0, 0)).isSome
  | _ => false
theorem F5 (n : Nat) (d : PyData) : Fn (n + 3) 5 [d] = some (.bool (tiersB d)) := by
  rw [Fn_run (D := d_are_tiers) (n + 2) 5 _ rfl (by decide) rfl rfl rfl]
  cases d with
  | tuple xs =>
    by_cases hl : 1 ≤ xs.length ∧ xs.length ≤ 4
    · have h1 : (1 : Int) ≤ xs.length := by omega
      have h2 : (xs.length : Int) ≤ 4 := by omega
      simp [DefT.run, d_are_tiers, t_are_tiers, n_are_tiers, tiersB, h1, h2, hl]
      generalize hF : forRun _ _ _ _ = o
      have key := for_opt (R := fun (b : Int × Int) Γ => ∃ j, Γ = [some (.d (.tuple xs)), some (.d (.int b.1)), some (.d (.int b.2)), j]) (step := tierS) (bad := .bool false) (0, 0) hF
      replace key := key (by
          rintro b Γ x hx ⟨j, rfl⟩
          cases x with
          | tuple ys =>
            match ys with
            | [] => simp [forS, tierS]
            | [a] => simp [forS, tierS]
            | a :: b' :: c :: r =>
              have hne : ¬ ((r.length : Int) + 1 + 1 + 1 = 2) := by omega
              simp [forS, tierS, hne]
            | [a, p] =>
              cases a with
              | int f =>
                simp [forS, tierS, F1]
                cases inI b.1 b.2 (.int f)
                · simp
                · cases inI 0 1000000000 p
                  · simp
                  · simp [setN]
              | _ => simp [forS, tierS, F1, inI]
          | _ => simp [forS, tierS]) ⟨none, rfl⟩
      cases hf : xs.foldlM tierS (0, 0) with
      | none => 
        rw [hf] at key
        simp [key]
      | some b =>
        rw [hf] at key
        obtain ⟨Γ', h3, j, rfl⟩ := key
        simp [h3]
    · simp [DefT.run, d_are_tiers, t_are_tiers, n_are_tiers, tiersB]
      by_cases h1 : 1 ≤ xs.length
      · have h1' : (1 : Int) ≤ xs.length := by omega
        have h2 : ¬ (xs.length : Int) ≤ 4 := by omega
        have h3 : ¬ xs.length ≤ 4 := by omega
        simp [h1', h2, h3]
      · have h1' : ¬ (1 : Int) ≤ xs.length := by omega
        simp [h1, h1']
  | _ => simp [DefT.run, d_are_tiers, t_are_tiers, n_are_tiers, tiersB]
end K26.Q
namespace K26.Q
open PySem L2
abbrev MM : Int := 1000000000
abbrev St := Int × Int × Int
structure Fm where
  fees : List Int
  tiers : List (Int × Int)
  inc : Int
  car : Int
  least : Int
  most : Option Int
  strk : Option (Int × Int × Int)
def stD (s : St) : PyData := .tuple [.int s.1, .int s.2.1, .int s.2.2]
def optI : Option Int → PyData
  | none => .none
  | some i => .int i
def optT : Option St → PyData
  | none => .none
  | some s => stD s
def tiD (t : Int × Int) : PyData := .tuple [.int t.1, .int t.2]
def Fm.D (F : Fm) : PyData := .tuple [.tuple (F.fees.map .int), .tuple (F.tiers.map tiD), .int F.inc, .int F.car, .int F.least, optI F.most, optT F.strk]
def Fm.row (F : Fm) : Int := match F.strk with
  | none => 0
  | some s => s.2.1
/-- the steps of the tiers, in order, from a number on -/
def tiV : Int × Int → List (Int × Int) → Prop
  | _, [] => True
  | b, t :: r => b.1 ≤ t.1 ∧ t.1 ≤ b.2 ∧ 0 ≤ t.2 ∧ t.2 ≤ 1000000000 ∧ tiV (t.1 + 1, 12) r
structure Fm.V (F : Fm) : Prop where
  f1 : 1 ≤ F.fees.length
  f2 : F.fees.length ≤ 2
  f3 : ∀ x ∈ F.fees, 0 ≤ x ∧ x ≤ 1000000000
  t1 : 1 ≤ F.tiers.length
  t2 : F.tiers.length ≤ 4
  t3 : tiV (0, 0) F.tiers
  i : 0 ≤ F.inc ∧ F.inc ≤ 12
  c : 0 ≤ F.car ∧ F.car ≤ 3
  l : 0 ≤ F.least ∧ F.least ≤ 1000000000
  m : ∀ x, F.most = some x → F.least ≤ x ∧ x ≤ 1000000000
  s : ∀ x, F.strk = some x → (1 ≤ x.1 ∧ x.1 ≤ 16) ∧ (1 ≤ x.2.1 ∧ x.2.1 ≤ 2) ∧ (0 ≤ x.2.2 ∧ x.2.2 ≤ 1000000000)
def strkB : PyData → Bool
  | .none => true
  | .tuple [a, b, c] => inI 1 16 a && inI 1 2 b && inI 0 1000000000 c
  | _ => false
theorem inI_of {lo hi : Int} {d : PyData} (h : inI lo hi d = true) : ∃ i, d = .int i ∧ lo ≤ i ∧ i ≤ hi := by
  cases d <;> simp [inI] at h
  exact ⟨_, rfl, h⟩
theorem isU_of {d : PyData} (h : isU d = true) : ∃ i, d = .int i ∧ 0 ≤ i := by
  cases d <;> simp [isU] at h
  exact ⟨_, rfl, h⟩
theorem F6 (n : Nat) (d : PyData) : Fn (n + 3) 6 [d] = some (.bool (strkB d)) := by
  rw [Fn_run (D := d_is_streak) (n + 2) 6 _ rfl (by decide) rfl rfl rfl]
  cases d with
  | tuple ys =>
    match ys with
    | [] => simp [DefT.run, d_is_streak, t_is_streak, n_is_streak, strkB]
    | [a] => simp [DefT.run, d_is_streak, t_is_streak, n_is_streak, strkB]
    | [a, b] => simp [DefT.run, d_is_streak, t_is_streak, n_is_streak, strkB]
    | [a, b, c] =>
      simp [DefT.run, d_is_streak, t_is_streak, n_is_streak, strkB, F1]
      cases inI 1 16 a
      · simp
      · cases inI 1 2 b
        · simp
        · simp [F1]
    | a :: b :: c :: e :: r =>
      have hne : ¬ ((r.length : Int) + 1 + 1 + 1 + 1 = 3) := by omega
      simp [DefT.run, d_is_streak, t_is_streak, n_is_streak, strkB, hne]
  | _ => simp [DefT.run, d_is_streak, t_is_streak, n_is_streak, strkB]
def mostB (lo : PyData) (d : PyData) : Bool := match d, lo with
  | .none, _ => true
  | d, .int l => inI l 1000000000 d
  | _, _ => false
def formB : PyData → Bool
  | .tuple [.tuple fees, tiers, inc, car, least, most, strk] => decide (1 ≤ fees.length) && decide (fees.length ≤ 2) && tiersB tiers && fees.all (inI 0 1000000000) && strkB strk && inI 0 12 inc && inI 0 3 car && (inI 0 1000000000 least && mostB least most)
  | _ => false
set_option maxHeartbeats 40000000 in
theorem F7 (n : Nat) (d : PyData) : Fn (n + 4) 7 [d] = some (.bool (formB d)) := by
  rw [Fn_run (D := d_is_form) (n + 3) 7 _ rfl (by decide) rfl rfl rfl]
  cases d with
  | tuple ys =>
    by_cases hlen : ys.length = 7
    · obtain ⟨a, tiers, inc, car, least, most, strk, rfl⟩ : ∃ a b c d e f g, ys = [a, b, c, d, e, f, g] := by
        match ys, hlen with
        | [a, b, c, d, e, f, g], _ => exact ⟨a, b, c, d, e, f, g, rfl⟩
      cases a with
      | tuple fees =>
        simp [DefT.run, d_is_form, t_is_form, n_is_form, formB, F5]
        by_cases h1 : 1 ≤ fees.length
        · by_cases h2 : fees.length ≤ 2
          · have h1' : (1 : Int) ≤ fees.length := by omega
            have h2' : (fees.length : Int) ≤ 2 := by omega
            simp [h1', h2']
            cases tiersB tiers
            · simp
            · simp
              generalize hF : lcRun _ _ _ _ = o
              rw [lc_map (h := fun x => .bool (inI 0 1000000000 x)) hF (fun x hx => by simp [lcS, F1]) (by omega)]
              simp [h1, h2, List.all_map, F6]
              cases fees.all (inI 0 1000000000)
              · simp
              · cases strkB strk
                · simp
                · simp [F1]
                  cases inI 0 12 inc
                  · simp
                  · cases inI 0 3 car
                    · simp
                    · cases hl : inI 0 1000000000 least
                      · simp [F1, hl]
                      · obtain ⟨l, rfl, q1, q2⟩ := inI_of hl
                        cases most <;> simp [mostB, F1, inI, q1, q2]
          · have h1' : (1 : Int) ≤ fees.length := by omega
            have h2' : ¬ (fees.length : Int) ≤ 2 := by omega
            simp [h2, h1', h2']
        · have h1' : ¬ (1 : Int) ≤ fees.length := by omega
          simp [h1, h1']
      | _ => simp [DefT.run, d_is_form, t_is_form, n_is_form, formB]
    · have hne : ¬ ((ys.length : Int) = 7) := by omega
      have hf : formB (.tuple ys) = false := by
        unfold formB
        split
        · rename_i h
          cases h
          exact absurd rfl hlen
        · rfl
      simp [DefT.run, d_is_form, t_is_form, n_is_form, hf, hne]
  | _ => simp [DefT.run, d_is_form, t_is_form, n_is_form, formB]

/-! #### what a form is -/
theorem tiers_of : ∀ (xs : List PyData) (b : Int × Int), (xs.foldlM tierS b).isSome = true → ∃ ts : List (Int × Int), xs = ts.map tiD ∧ tiV b ts
  | [], _, _ => ⟨[], rfl, trivial⟩
  | x :: xs, b, h => by
    rw [List.foldlM_cons] at h
    cases e : tierS b x with
    | none => rw [e] at h; cases h
    | some b' =>
      rw [e] at h
      obtain ⟨ts, h1, h2⟩ := tiers_of xs b' h
      unfold tierS at e
      split at e
      · rename_i f p
        split at e
        · rename_i hc
          rw [Bool.and_eq_true] at hc
          obtain ⟨q, rfl, q1, q2⟩ := inI_of hc.2
          obtain ⟨_, e1, q3, q4⟩ := inI_of hc.1
          cases e1
          cases e
          exact ⟨(f, q) :: ts, by rw [h1]; rfl, q3, q4, q1, q2, h2⟩
        · cases e
      · cases e
theorem tiers_to : ∀ (ts : List (Int × Int)) (b : Int × Int), tiV b ts → ((ts.map tiD).foldlM tierS b).isSome = true
  | [], _, _ => rfl
  | t :: ts, b, ⟨h1, h2, h3, h4, h5⟩ => by
    rw [List.map_cons, List.foldlM_cons]
    have e : tierS b (tiD t) = some (t.1 + 1, 12) := by simp [tierS, tiD, inI, h1, h2, h3, h4]
    rw [e]
    exact tiers_to ts _ h5
theorem ints_of {lo hi : Int} : ∀ (xs : List PyData), xs.all (inI lo hi) = true → ∃ ns : List Int, xs = ns.map .int ∧ ∀ x ∈ ns, lo ≤ x ∧ x ≤ hi
  | [], _ => ⟨[], rfl, fun _ h => nomatch h⟩
  | x :: xs, h => by
    rw [List.all_cons, Bool.and_eq_true] at h
    obtain ⟨i, rfl, q⟩ := inI_of h.1
    obtain ⟨ns, h1, h2⟩ := ints_of xs h.2
    exact ⟨i :: ns, by rw [h1]; rfl, fun y hy => (List.mem_cons.mp hy).elim (fun e => e ▸ q) (h2 y)⟩
theorem formB_of {d : PyData} (h : formB d = true) : ∃ F : Fm, F.V ∧ d = F.D := by
  unfold formB at h
  split at h
  · rename_i fees tiers inc car least most strk
    simp only [Bool.and_eq_true, decide_eq_true_eq] at h
    obtain ⟨⟨⟨⟨⟨⟨⟨h1, h2⟩, h3⟩, h4⟩, h5⟩, h6⟩, h7⟩, h8, h9⟩ := h
    obtain ⟨fs, rfl, hf⟩ := ints_of fees h4
    obtain ⟨i, rfl, hi⟩ := inI_of h6
    obtain ⟨c, rfl, hc⟩ := inI_of h7
    obtain ⟨l, rfl, hl⟩ := inI_of h8
    obtain ⟨xs, rfl⟩ : ∃ xs, tiers = .tuple xs := by
      unfold tiersB at h3
      split at h3
      · exact ⟨_, rfl⟩
      · cases h3
    simp only [tiersB, Bool.and_eq_true, decide_eq_true_eq] at h3
    obtain ⟨ts, rfl, ht⟩ := tiers_of xs (0, 0) h3.2
    obtain ⟨m, rfl, hm⟩ : ∃ m, most = optI m ∧ ∀ x, m = some x → l ≤ x ∧ x ≤ 1000000000 := by
      cases most with
      | none => exact ⟨none, rfl, fun _ h => nomatch h⟩
      | int i => exact ⟨some i, rfl, fun x e => by cases e; simpa [mostB, inI] using h9⟩
      | _ => simp [mostB, inI] at h9
    obtain ⟨s, rfl, hs⟩ : ∃ s, strk = optT s ∧ ∀ x, s = some x → (1 ≤ x.1 ∧ x.1 ≤ 16) ∧ (1 ≤ x.2.1 ∧ x.2.1 ≤ 2) ∧ (0 ≤ x.2.2 ∧ x.2.2 ≤ 1000000000) := by
      unfold strkB at h5
      split at h5
      · exact ⟨none, rfl, fun _ h => nomatch h⟩
      · rw [Bool.and_eq_true, Bool.and_eq_true] at h5
        obtain ⟨a, rfl, ha⟩ := inI_of h5.1.1
        obtain ⟨b, rfl, hb⟩ := inI_of h5.1.2
        obtain ⟨c, rfl, hc⟩ := inI_of h5.2
        exact ⟨some (a, b, c), rfl, fun x e => by cases e; exact ⟨ha, hb, hc⟩⟩
      · cases h5
    refine ⟨⟨fs, ts, i, c, l, m, s⟩, ⟨by simpa using h1, by simpa using h2, hf, by simpa using h3.1.1, by simpa using h3.1.2, ht, hi, hc, hl, hm, hs⟩, rfl⟩
  · cases h
theorem formB_to {F : Fm} (h : F.V) : formB F.D = true := by
  simp only [formB, Fm.D, Bool.and_eq_true, decide_eq_true_eq]
  refine ⟨⟨⟨⟨⟨⟨⟨by simpa using h.f1, by simpa using h.f2⟩, ?_⟩, ?_⟩, ?_⟩, by simpa [inI] using h.i⟩, by simpa [inI] using h.c⟩, by simpa [inI] using h.l, ?_⟩
  · simp only [tiersB, Bool.and_eq_true, decide_eq_true_eq]
    exact ⟨⟨by simpa using h.t1, by simpa using h.t2⟩, tiers_to _ _ h.t3⟩
  · rw [List.all_eq_true]
    intro x hx
    obtain ⟨y, hy, rfl⟩ := List.mem_map.mp hx
    simpa [inI] using h.f3 y hy
  · cases e : F.strk with
    | none => rfl
    | some x =>
      have := h.s x e
      simp [optT, stD, strkB, inI, this]
  · cases e : F.most with
    | none => rfl
    | some x =>
      have := h.m x e
      simp [optI, mostB, inI, this]
def stB (F : Fm) : PyData → Bool
  | .tuple [a, b, c] => inI 0 F.car a && inI 0 F.row b && inI 0 (F.fees.length - 1) c
  | _ => false
theorem F8 (n : Nat) (F : Fm) (d : PyData) : Fn (n + 3) 8 [F.D, d] = some (.bool (stB F d)) := by
  rw [Fn_run (D := d_is_state) (n + 2) 8 _ rfl (by decide) rfl rfl rfl]
  cases d with
  | tuple ys =>
    by_cases hlen : ys.length = 3
    · obtain ⟨a, b, c, rfl⟩ : ∃ a b c, ys = [a, b, c] := by
        match ys, hlen with
        | [a, b, c], _ => exact ⟨a, b, c, rfl⟩
      have e : stB F (.tuple [a, b, c]) = (inI 0 F.car a && inI 0 F.row b && inI 0 (F.fees.length - 1) c) := rfl
      rw [e]
      unfold Fm.row
      cases es : F.strk with
      | none =>
        simp [DefT.run, d_is_state, t_is_state, n_is_state, Fm.D, es, optT, F1]
        cases inI 0 F.car a
        · simp
        · cases inI 0 0 b <;> simp [F1]
      | some s =>
        simp [DefT.run, d_is_state, t_is_state, n_is_state, Fm.D, es, optT, stD, F1]
        cases inI 0 F.car a
        · simp
        · cases inI 0 s.2.1 b <;> simp [F1]
    · have hne : ¬ ((ys.length : Int) = 3) := by omega
      have hf : stB F (.tuple ys) = false := by
        unfold stB
        split
        · rename_i h
          cases h
          exact absurd rfl hlen
        · rfl
      simp [DefT.run, d_is_state, t_is_state, n_is_state, hf, hne]
  | _ => simp [DefT.run, d_is_state, t_is_state, n_is_state, stB]
theorem stB_of {F : Fm} {d : PyData} (h : stB F d = true) : ∃ s : St, d = stD s ∧ (0 ≤ s.1 ∧ s.1 ≤ F.car) ∧ (0 ≤ s.2.1 ∧ s.2.1 ≤ F.row) ∧ (0 ≤ s.2.2 ∧ s.2.2 ≤ F.fees.length - 1) := by
  unfold stB at h
  split at h
  · simp only [Bool.and_eq_true] at h
    obtain ⟨a, rfl, ha⟩ := inI_of h.1.1
    obtain ⟨b, rfl, hb⟩ := inI_of h.1.2
    obtain ⟨c, rfl, hc⟩ := inI_of h.2
    exact ⟨(a, b, c), rfl, ha, hb, hc⟩
  · cases h
/-- a state of a plan -/
def Fm.S (F : Fm) (s : St) : Prop := (0 ≤ s.1 ∧ s.1 ≤ F.car) ∧ (0 ≤ s.2.1 ∧ s.2.1 ≤ F.row) ∧ (0 ≤ s.2.2 ∧ s.2.2 ≤ F.fees.length - 1)
theorem stB_to {F : Fm} {s : St} (h : F.S s) : stB F (stD s) = true := by
  obtain ⟨h1, h2, h3⟩ := h
  simp [stB, stD, inI, h1, h2, h3]
end K26.Q
set_option maxHeartbeats 4000000
namespace K26.Q
open PySem L2
theorem for_foldm {α β : Type} {enc : α → PyData} {R : β → Gm → Prop} {step : β → α → β} {S : Pl} {f : PyData → Gm → Pl → Option Out} {ts : List α} {o : Option Out} {Γ : Gm} (b : β) (hF : forRun f (ts.map enc) Γ S = o)
    (h : ∀ b Γ x, x ∈ ts → R b Γ → ∃ Γ', f (enc x) Γ S = some (.nx Γ' S) ∧ R (step b x) Γ') (r : R b Γ) : ∃ Γ', o = some (.nx Γ' S) ∧ R (ts.foldl step b) Γ' := by
  subst hF
  induction ts generalizing b Γ with
  | nil => exact ⟨Γ, rfl, r⟩
  | cons t ts ih =>
    obtain ⟨Γ', h1, h2⟩ := h b Γ t (by simp) r
    rw [List.map_cons]
    unfold forRun
    rw [h1]
    exact ih _ (fun b Γ x hx => h b Γ x (by simp [hx])) h2
theorem for_optm {α β : Type} {enc : α → PyData} {R : β → Gm → Prop} {step : β → α → Option β} {S : Pl} {bad : PyData} {f : PyData → Gm → Pl → Option Out} {ts : List α} {o : Option Out} {Γ : Gm} (b : β) (hF : forRun f (ts.map enc) Γ S = o)
    (h : ∀ b Γ x, x ∈ ts → R b Γ → match step b x with | none => f (enc x) Γ S = some (.rt bad S) | some b' => ∃ Γ', f (enc x) Γ S = some (.nx Γ' S) ∧ R b' Γ') (r : R b Γ) :
    match ts.foldlM step b with | none => o = some (.rt bad S) | some b' => ∃ Γ', o = some (.nx Γ' S) ∧ R b' Γ' := by
  subst hF
  induction ts generalizing b Γ with
  | nil => exact ⟨Γ, rfl, r⟩
  | cons t ts ih =>
    have h1 := h b Γ t (by simp) r
    rw [List.foldlM_cons, List.map_cons]
    unfold forRun
    cases e : step b t with
    | none => rw [e] at h1; simp [h1]
    | some b' =>
      rw [e] at h1
      obtain ⟨Γ', h2, h3⟩ := h1
      have := ih _ (fun b Γ x hx => h b Γ x (by simp [hx])) h3
      simpa [h2] using this
@[simp] theorem atI_m1 {α : Type} (xs : List α) : atI xs (-1) = xs.getLast? := by
  cases h : xs.getLast? with
  | none =>
    have : xs = [] := by simpa using h
    subst this
    rfl
  | some a =>
    have e : xs = xs.dropLast ++ [a] := by
      have hn : xs ≠ [] := fun z => by subst z; simp at h
      rw [List.getLast?_eq_some_getLast hn] at h
      have := List.dropLast_concat_getLast hn
      rw [Option.some.inj h] at this
      exact this.symm
    rw [e]
    exact atI_snoc _ _
@[simp] theorem bin_flr {i j : Int} : binD .FloorDiv (.int i) (.int j) = if 0 < j ∧ j < 1073741824 then some (.int (i / j)) else none := rfl
def Fm.fee (F : Fm) (s : St) : Int := (F.fees[s.2.2.toNat]?).getD 0
theorem tiV_mem : ∀ {ts : List (Int × Int)} {b : Int × Int}, tiV b ts → ∀ t ∈ ts, 0 ≤ t.2 ∧ t.2 ≤ 1000000000
  | [], _, _, t, h => nomatch h
  | x :: ts, b, ⟨_, _, h3, h4, h5⟩, t, h => (List.mem_cons.mp h).elim (fun e => e ▸ ⟨h3, h4⟩) (tiV_mem h5 t)
theorem fee_at {F : Fm} {s : St} (h : F.S s) : atI (F.fees.map PyData.int) s.2.2 = some (.int (F.fee s)) := by
  obtain ⟨_, _, h1, h2⟩ := h
  obtain ⟨k, hk⟩ : ∃ k : Nat, s.2.2 = k := ⟨s.2.2.toNat, by omega⟩
  unfold Fm.fee
  rw [hk, atI_nat, List.getElem?_map]
  have : k < F.fees.length := by omega
  simp [this]
theorem fee_le {F : Fm} {s : St} (V : F.V) (h : F.S s) : 0 ≤ F.fee s ∧ F.fee s ≤ 1000000000 := by
  obtain ⟨_, _, h1, h2⟩ := h
  unfold Fm.fee
  have : s.2.2.toNat < F.fees.length := by omega
  rw [List.getElem?_eq_getElem this]
  exact V.f3 _ (List.getElem_mem this)
def uncS (b : Int) (f : Int × Int) (t : Int × Int) : Int × Int := (f.1 + (t.2 - f.2) * max 0 (b - t.1), t.2)
def Fm.unc (F : Fm) (s : St) (u : Int) : Int := (F.tiers.foldl (uncS (max 0 (u - F.inc - s.1))) (F.fee s, 0)).1
theorem F9 (n : Nat) (F : Fm) (V : F.V) (s : St) (h : F.S s) (u : Int) : Fn (n + 1) 9 [F.D, stD s, .int u] = some (.int (F.unc s u)) := by
  rw [Fn_run (D := d_uncut) n 9 _ rfl (by decide) rfl rfl rfl]
  simp [DefT.run, d_uncut, t_uncut, n_uncut, Fm.D, stD, fee_at h, setN]
  generalize hF : forRun _ _ _ _ = o
  have key := for_foldm (R := fun (b : Int × Int) Γ => (0 ≤ b.2 ∧ b.2 ≤ 1000000000) ∧ ∃ a0 a1 a2 j1 j2, Γ = [a0, a1, a2, some (.d (.int (max 0 (u - F.inc - s.1)))), some (.d (.int b.1)), some (.d (.int b.2)), j1, j2])
    (step := uncS (max 0 (u - F.inc - s.1))) (F.fee s, 0) hF
  replace key := key (by
    rintro b Γ t ht ⟨hb, a0, a1, a2, j1, j2, rfl⟩
    have q := tiV_mem V.t3 t ht
    simp [forS, tiD, mulB_l (i := t.2 - b.2) (by omega) (by omega)]
    exact ⟨q, rfl, rfl⟩) ⟨by simp, _, _, _, _, _, rfl⟩
  obtain ⟨Γ', h1, _, a0, a1, a2, j1, j2, rfl⟩ := key
  simp [h1, Fm.unc]
def Fm.chg (F : Fm) (s : St) (u : Int) : Int :=
  let f := max F.least (F.unc s u)
  let f := match F.most with
    | none => f
    | some m => min m f
  match F.strk with
    | none => f
    | some k => if s.2.1 = k.2.1 then max 0 (f - k.2.2) else f
theorem F10 (n : Nat) (F : Fm) (V : F.V) (s : St) (h : F.S s) (u : Int) : Fn (n + 2) 10 [F.D, stD s, .int u] = some (.int (F.chg s u)) := by
  rw [Fn_run (D := d_charge) (n + 1) 10 _ rfl (by decide) rfl rfl rfl]
  have cut : slD F.D (some 4) none = some (.tuple [.int F.least, optI F.most, optT F.strk]) := rfl
  have hF9 := F9 n F V s h u
  unfold Fm.chg
  cases hm : F.most with
  | none =>
    cases hs : F.strk with
    | none => simp [DefT.run, d_charge, t_charge, n_charge, cut, hm, hs, optI, optT, hF9]
    | some k =>
      by_cases q : s.2.1 = k.2.1
      · have q' : atI [PyData.int s.1, .int s.2.1, .int s.2.2] 1 = some (.int s.2.1) := rfl
        simp [DefT.run, d_charge, t_charge, n_charge, cut, hm, hs, optI, optT, hF9]
        simp [stD, q]
      · simp [DefT.run, d_charge, t_charge, n_charge, cut, hm, hs, optI, optT, hF9]
        simp [stD, q]
  | some m =>
    cases hs : F.strk with
    | none => simp [DefT.run, d_charge, t_charge, n_charge, cut, hm, hs, optI, optT, hF9]
    | some k =>
      by_cases q : s.2.1 = k.2.1
      · simp [DefT.run, d_charge, t_charge, n_charge, cut, hm, hs, optI, optT, hF9]
        simp [stD, q]
      · simp [DefT.run, d_charge, t_charge, n_charge, cut, hm, hs, optI, optT, hF9]
        simp [stD, q]
def Fm.busy (F : Fm) (s : St) (u : Int) : Int := match F.strk with
  | none => 0
  | some k => if k.1 ≤ u then min k.2.1 (s.2.1 + 1) else 0
def Fm.nxt (F : Fm) (s : St) (u : Int) : St := (min F.car (max 0 (F.inc + s.1 - u)), F.busy s u, (s.2.2 + 1) % F.fees.length)
theorem F11 (n : Nat) (F : Fm) (V : F.V) (s : St) (u : Int) : Fn (n + 1) 11 [F.D, stD s, .int u] = some (stD (F.nxt s u)) := by
  rw [Fn_run (D := d_onward) n 11 _ rfl (by decide) rfl rfl rfl]
  have hl : 0 < F.fees.length := V.f1
  unfold Fm.nxt Fm.busy
  cases hs : F.strk with
  | none => simp [DefT.run, d_onward, t_onward, n_onward, Fm.D, stD, hs, optT, hl]
  | some k =>
    by_cases q : k.1 ≤ u
    · simp [DefT.run, d_onward, t_onward, n_onward, Fm.D, stD, hs, optT, hl, q]
    · simp [DefT.run, d_onward, t_onward, n_onward, Fm.D, stD, hs, optT, hl, q]
theorem nxt_S {F : Fm} (V : F.V) {s : St} (h : F.S s) (u : Int) : F.S (F.nxt s u) := by
  have hc := V.c
  have hl := V.f1
  refine ⟨⟨by simp only [Fm.nxt]; omega, by simp only [Fm.nxt]; omega⟩, ?_, ?_⟩
  · simp only [Fm.nxt]
    unfold Fm.busy Fm.row
    cases hs : F.strk with
    | none => simp
    | some k =>
      have := V.s k hs
      obtain ⟨_, ⟨h1, h2⟩, _⟩ := h
      unfold Fm.row at h2
      rw [hs] at h2
      simp only at h2 ⊢
      split <;> omega
  · simp only [Fm.nxt]
    have h1 := Int.emod_nonneg (s.2.2 + 1) (show (F.fees.length : Int) ≠ 0 by omega)
    have h2 := Int.emod_lt_of_pos (s.2.2 + 1) (show (0 : Int) < F.fees.length by omega)
    omega
theorem zero_S {F : Fm} (V : F.V) : F.S (0, 0, 0) := by
  have hl := V.f1
  refine ⟨by simpa using V.c.1, ⟨by simp, ?_⟩, by simp, by simp; omega⟩
  unfold Fm.row
  cases hs : F.strk with
  | none => simp
  | some k => have := V.s k hs; simp only; omega
def Fm.walk (F : Fm) (us : List Int) (s : St) : Int × St := us.foldl (fun b u => (b.1 + F.chg b.2 u, F.nxt b.2 u)) (0, s)
theorem walk_gen {F : Fm} (V : F.V) : ∀ (us : List Int) (b : Int × St), F.S b.2 → F.S (us.foldl (fun b u => (b.1 + F.chg b.2 u, F.nxt b.2 u)) b).2
  | [], _, h => h
  | u :: us, b, h => walk_gen V us _ (nxt_S V h u)
theorem walk_S {F : Fm} (V : F.V) (us : List Int) {s : St} (h : F.S s) : F.S (F.walk us s).2 := walk_gen V us _ h
theorem F12 (n : Nat) (F : Fm) (V : F.V) (us : List Int) (d : PyData) (hd : seqD d = some (us.map .int)) : Fn (n + 3) 12 [F.D, d] = some (.tuple [.int (F.walk us (0, 0, 0)).1, stD (F.walk us (0, 0, 0)).2]) := by
  rw [Fn_run (D := d_walked) (n + 2) 12 _ rfl (by decide) rfl rfl rfl]
  simp [DefT.run, d_walked, t_walked, n_walked, setN, hd]
  generalize hF : forRun _ _ _ _ = o
  have key := for_foldm (R := fun (b : Int × St) Γ => F.S b.2 ∧ ∃ j, Γ = [some (.d F.D), some (.d d), some (.d (.int b.1)), some (.d (stD b.2)), j])
    (step := fun b u => (b.1 + F.chg b.2 u, F.nxt b.2 u)) (0, (0, 0, 0)) hF
  replace key := key (by
    rintro b Γ u hu ⟨hb, j, rfl⟩
    simp [forS, F10 n F V b.2 hb u, F11 (n + 1) F V b.2 u]
    exact nxt_S V hb u) ⟨zero_S V, _, rfl⟩
  obtain ⟨Γ', h1, _, j, rfl⟩ := key
  simp [h1, Fm.walk]
def Fm.last (F : Fm) : Int × Int := F.tiers.getLast?.getD (0, 0)
theorem last_at {F : Fm} (V : F.V) : (F.tiers.map tiD).getLast? = some (tiD F.last) := by
  rw [List.getLast?_map]
  unfold Fm.last
  have : F.tiers ≠ [] := fun z => by have := V.t1; rw [z] at this; simp at this
  rw [List.getLast?_eq_some_getLast this]
  rfl
def Fm.far (F : Fm) : Int :=
  let f := F.inc + F.car + F.last.1
  match F.strk with
  | none => f
  | some k => max f k.1
theorem F13 (n : Nat) (F : Fm) (V : F.V) : Fn (n + 1) 13 [F.D] = some (.int F.far) := by
  rw [Fn_run (D := d_far_use) n 13 _ rfl (by decide) rfl rfl rfl]
  unfold Fm.far
  have hl := last_at V
  cases hs : F.strk with
  | none => simp [DefT.run, d_far_use, t_far_use, n_far_use, Fm.D, hs, optT, hl, tiD, -List.getLast?_map]
  | some k => simp [DefT.run, d_far_use, t_far_use, n_far_use, Fm.D, hs, optT, stD, hl, tiD, -List.getLast?_map]
end K26.Q
namespace K26.Q
open PySem L2
def Fm.cuts (F : Fm) : List Int := [F.least] ++ F.most.toList ++ (F.strk.map (·.2.2)).toList
def bendS (F : Fm) (s : St) (acc : List Int) (cut : Int) : List Int :=
  let u := if F.last.2 = 0 then -1 else (cut - F.unc s F.far) / F.last.2
  if 0 ≤ u then acc ++ [F.far + u, F.far + u + 1] else acc
def Fm.bends (F : Fm) (s : St) : List Int := F.cuts.foldl (bendS F s) []
def bendsB : Ss := (.cons (.set 7 (.ite (.cmp .Eq (.var 3) (.int 0)) (.neg (.int 1)) (.bin .FloorDiv (.bin .Sub (.var 6) (.call 9 (.cons (.var 0) (.cons (.var 1) (.cons (.var 2) .nil))))) (.var 3)))) (.cons (.ife (.cmp .GtE (.var 7) (.int 0)) (.cons (.ext 5 (.cons (.bin .Add (.var 2) (.var 7)) (.cons (.bin .Add (.bin .Add (.var 2) (.var 7)) (.int 1)) .nil))) .nil) .nil) .nil))
theorem last_V {F : Fm} (V : F.V) : 0 ≤ F.last.2 ∧ F.last.2 ≤ 1000000000 := by
  unfold Fm.last
  cases h : F.tiers.getLast? with
  | none => simp
  | some t => exact tiV_mem V.t3 t (List.mem_of_getLast? h)
section
variable {F : Fm} {k : St} {t : Int × Int}
@[simp] theorem st_ix0 : ixD (stD k) (.int 0) = some (.int k.1) := rfl
@[simp] theorem st_ix1 : ixD (stD k) (.int 1) = some (.int k.2.1) := rfl
@[simp] theorem st_ix2 : ixD (stD k) (.int 2) = some (.int k.2.2) := rfl
@[simp] theorem ti_ix0 : ixD (tiD t) (.int 0) = some (.int t.1) := rfl
@[simp] theorem ti_ix1 : ixD (tiD t) (.int 1) = some (.int t.2) := rfl
@[simp] theorem fm_ix0 : ixD F.D (.int 0) = some (.tuple (F.fees.map .int)) := rfl
@[simp] theorem fm_ix1 : ixD F.D (.int 1) = some (.tuple (F.tiers.map tiD)) := rfl
@[simp] theorem fm_ix2 : ixD F.D (.int 2) = some (.int F.inc) := rfl
@[simp] theorem fm_ix3 : ixD F.D (.int 3) = some (.int F.car) := rfl
@[simp] theorem fm_ix4 : ixD F.D (.int 4) = some (.int F.least) := rfl
@[simp] theorem fm_ix5 : ixD F.D (.int 5) = some (optI F.most) := rfl
@[simp] theorem fm_ix6 : ixD F.D (.int 6) = some (optT F.strk) := rfl
@[simp] theorem optI_n : optI none = .none := rfl
@[simp] theorem optI_s {i : Int} : optI (some i) = .int i := rfl
@[simp] theorem optT_n : optT none = .none := rfl
@[simp] theorem optT_s : optT (some k) = stD k := rfl
@[simp] theorem is_st : isD (stD k) none = some false := rfl
end
theorem bends_len (F : Fm) (s : St) (ts : List Int) : ∀ acc : List Int, (ts.foldl (bendS F s) acc).length ≤ acc.length + 2 * ts.length := by
  induction ts with
  | nil => intro acc; simp
  | cons t ts ih =>
    intro acc
    have := ih (bendS F s acc t)
    have e : (bendS F s acc t).length ≤ acc.length + 2 := by
      by_cases h0 : F.last.2 = 0
      · simp [bendS, h0]
      · by_cases hu : 0 ≤ (t - F.unc s F.far) / F.last.2 <;> simp [bendS, h0, hu]
    simp only [List.foldl_cons, List.length_cons]
    omega
theorem bends_loop (n : Nat) {F : Fm} (V : F.V) {s : St} (h : F.S s) (a4 : Option Sl) (ts : List Int) (hl : ts.length ≤ 3) : ∃ Γ', forRun (forS (cfN (n + 1)) (.nm 6) bendsB) (ts.map .int) [some (.d F.D), some (.d (stD s)), some (.d (.int F.far)), some (.d (.int F.last.2)), a4, some (.ownL []), none, none] [] = some (.nx Γ' []) ∧
    ∃ j1 j2, Γ' = [some (.d F.D), some (.d (stD s)), some (.d (.int F.far)), some (.d (.int F.last.2)), a4, some (.ownL ((ts.foldl (bendS F s) []).map .int)), j1, j2] := by
  have hp := last_V V
  have step : ∀ (t : Int) (acc : List Int) (j1 j2 : Option Sl), acc.length + 2 ≤ 16777216 → ∃ k1 k2, forS (cfN (n + 1)) (.nm 6) bendsB (.int t) [some (.d F.D), some (.d (stD s)), some (.d (.int F.far)), some (.d (.int F.last.2)), a4, some (.ownL (acc.map .int)), j1, j2] [] =
      some (.nx [some (.d F.D), some (.d (stD s)), some (.d (.int F.far)), some (.d (.int F.last.2)), a4, some (.ownL ((bendS F s acc t).map .int)), k1, k2] []) := by
    intro t acc j1 j2 h3
    by_cases h0 : F.last.2 = 0
    · have e : bendS F s acc t = acc := by simp [bendS, h0]
      rw [e]
      simp [forS, bendsB, h0]
    · have h1 : 0 < F.last.2 := by omega
      have h2 : F.last.2 < 1073741824 := by omega
      by_cases hu : 0 ≤ (t - F.unc s F.far) / F.last.2
      · have e : bendS F s acc t = acc ++ [F.far + (t - F.unc s F.far) / F.last.2, F.far + (t - F.unc s F.far) / F.last.2 + 1] := by simp [bendS, h0, hu]
        rw [e]
        simp [forS, bendsB, h0, F9 n F V s h, h1, h2, hu, h3]
      · have e : bendS F s acc t = acc := by simp [bendS, h0, hu]
        rw [e]
        simp [forS, bendsB, h0, F9 n F V s h, h1, h2, hu]
  have gen : ∀ (ts : List Int) (acc : List Int) (j1 j2 : Option Sl), acc.length + 2 * ts.length ≤ 16777216 → ∃ Γ', forRun (forS (cfN (n + 1)) (.nm 6) bendsB) (ts.map .int) [some (.d F.D), some (.d (stD s)), some (.d (.int F.far)), some (.d (.int F.last.2)), a4, some (.ownL (acc.map .int)), j1, j2] [] = some (.nx Γ' []) ∧
    ∃ j1 j2, Γ' = [some (.d F.D), some (.d (stD s)), some (.d (.int F.far)), some (.d (.int F.last.2)), a4, some (.ownL ((ts.foldl (bendS F s) acc).map .int)), j1, j2] := by
    intro ts
    induction ts with
    | nil => intro acc j1 j2 _; exact ⟨_, rfl, _, _, rfl⟩
    | cons t ts ih =>
      intro acc j1 j2 hl
      simp only [List.length_cons] at hl
      rw [List.map_cons, List.foldl_cons]
      unfold forRun
      obtain ⟨k1, k2, e⟩ := step t acc j1 j2 (by omega)
      rw [e]
      have := bends_len F s [t] acc
      simp only [List.foldl_cons, List.foldl_nil, List.length_singleton] at this
      exact ih _ k1 k2 (by omega)
  exact gen ts [] none none (by simp; omega)
theorem F14 (n : Nat) (F : Fm) (V : F.V) (s : St) (h : F.S s) : Fn (n + 2) 14 [F.D, stD s] = some (.list ((F.bends s).map .int)) := by
  rw [Fn_run (D := d_bends) (n + 1) 14 _ rfl (by decide) rfl rfl rfl]
  have hl := last_at V
  have loop := fun a4 ts (hts : ts.length ≤ 3) => bends_loop n V h a4 ts hts
  unfold Fm.bends
  cases hm : F.most <;> cases hs : F.strk <;> simp [DefT.run, d_bends, t_bends, n_bends, F13 n F V, hl, -List.getLast?_map, setN, hm, hs]
  · obtain ⟨Γ', h1, j1, j2, rfl⟩ := loop (some (.d (.list [.int F.least]))) [F.least] (by simp)
    simp only [bendsB, List.map] at h1
    simp [h1, Fm.cuts, hm, hs]
  · rename_i k
    obtain ⟨Γ', h1, j1, j2, rfl⟩ := loop (some (.d (.list [.int F.least, .int k.2.2]))) [F.least, k.2.2] (by simp)
    simp only [bendsB, List.map] at h1
    simp [h1, Fm.cuts, hm, hs]
  · rename_i m
    obtain ⟨Γ', h1, j1, j2, rfl⟩ := loop (some (.d (.list [.int F.least, .int m]))) [F.least, m] (by simp)
    simp only [bendsB, List.map] at h1
    simp [h1, Fm.cuts, hm, hs]
  · rename_i m k
    obtain ⟨Γ', h1, j1, j2, rfl⟩ := loop (some (.d (.list [.int F.least, .int m, .int k.2.2]))) [F.least, m, k.2.2] (by simp)
    simp only [bendsB, List.map] at h1
    simp [h1, Fm.cuts, hm, hs]

theorem intsD_map (ns : List Int) : intsD (ns.map .int) = some ns := by
  induction ns with
  | nil => rfl
  | cons n ns ih => simp [intsD, ih]
@[simp] theorem sset_i {ns : List Int} : ssetD (.list (ns.map .int)) = if ns.length < 64 then some (.list ((uniqI ns).map .int)) else none := by
  unfold ssetD
  simp [intsD_map]
theorem eraseDups_len : ∀ (k : Nat) (ns : List Int), ns.length ≤ k → ns.eraseDups.length ≤ ns.length
  | _, [], _ => by simp
  | 0, _ :: _, h => by simp at h
  | k + 1, n :: ns, h => by
    rw [List.eraseDups_cons]
    have h1 := List.length_filter_le (fun b => !b == n) ns
    have h2 := eraseDups_len k (ns.filter fun b => !b == n) (by simp at h; omega)
    simp only [List.length_cons]
    omega
theorem uniqI_len (ns : List Int) : (uniqI ns).length ≤ ns.length := by
  unfold uniqI
  rw [List.length_mergeSort]
  exact eraseDups_len _ _ (Nat.le_refl _)
theorem uniqI_mem {ns : List Int} {x : Int} : x ∈ uniqI ns ↔ x ∈ ns := by
  unfold uniqI
  rw [List.mem_mergeSort, List.mem_eraseDups]
theorem Fm.bends_len (F : Fm) (s : St) : (F.bends s).length ≤ 6 := by
  have := K26.Q.bends_len F s F.cuts []
  have e : F.cuts.length ≤ 3 := by
    unfold Fm.cuts
    cases F.most <;> cases F.strk <;> simp
  unfold Fm.bends
  simp only [List.length_nil] at this
  omega
def turns (F : Fm) (s : St) (G : Fm) (t : St) : List Int := max F.far G.far :: uniqI ((F.bends s ++ G.bends t).filter fun u => decide (max F.far G.far < u))
theorem turns_len (F : Fm) (s : St) (G : Fm) (t : St) : (turns F s G t).length ≤ 13 := by
  have h1 := F.bends_len s
  have h2 := G.bends_len t
  have h3 := uniqI_len ((F.bends s ++ G.bends t).filter fun u => decide (max F.far G.far < u))
  have h4 := List.length_filter_le (fun u => decide (max F.far G.far < u)) (F.bends s ++ G.bends t)
  simp only [List.length_append] at h4
  unfold turns
  simp only [List.length_cons]
  omega
theorem fil_int (ns : List Int) (p : Int → Bool) (q : PyData → Bool) (h : ∀ n, q (.int n) = p n) : (ns.map PyData.int).filter q = (ns.filter p).map .int := by
  rw [List.filter_map]
  congr 1
  apply List.filter_congr
  intro x _
  exact h x
def gtB (b : Int) : PyData → Bool
  | .int i => decide (b < i)
  | _ => false
def ltB (b : Int) : PyData → Bool
  | .int i => decide (i < b)
  | _ => false
def geB (b : Int) : PyData → Bool
  | .int i => decide (b ≤ i)
  | _ => false
theorem F15 (n : Nat) (F : Fm) (V : F.V) (s : St) (h : F.S s) (G : Fm) (W : G.V) (t : St) (h' : G.S t) : Fn (n + 3) 15 [F.D, stD s, G.D, stD t] = some (.list ((turns F s G t).map .int)) := by
  rw [Fn_run (D := d_turns) (n + 2) 15 _ rfl (by decide) rfl rfl rfl]
  have h1 := F.bends_len s
  have h2 := G.bends_len t
  have h3 : (F.bends s).length + (G.bends t).length ≤ 16777216 := by omega
  simp [DefT.run, d_turns, t_turns, n_turns, F13 (n + 1), V, W, F14 n, h, h', h3]
  generalize hF : lcRun _ _ _ _ = o
  have hm : ∀ x ∈ (F.bends s).map PyData.int ++ (G.bends t).map .int, ∃ i, x = .int i := by
    intro x hx
    rcases List.mem_append.mp hx with hx | hx <;> obtain ⟨i, _, rfl⟩ := List.mem_map.mp hx <;> exact ⟨i, rfl⟩
  rw [lc_fil (p := gtB (max F.far G.far)) hF (fun x hx => by
    obtain ⟨i, rfl⟩ := hm x hx
    simp [lcS, gtB]
    by_cases q : max F.far G.far < i
    · simp [q]
    · simp [q]) (by simp; omega)]
  rw [← List.map_append, fil_int _ (fun u => decide (max F.far G.far < u)) _ (fun n => rfl)]
  have h4 := List.length_filter_le (fun u => decide (max F.far G.far < u)) (F.bends s ++ G.bends t)
  simp only [List.length_append] at h4
  have h5 : ((F.bends s ++ G.bends t).filter fun u => decide (max F.far G.far < u)).length < 64 := by omega
  have h6 := uniqI_len ((F.bends s ++ G.bends t).filter fun u => decide (max F.far G.far < u))
  have h7 : 1 + (uniqI ((F.bends s ++ G.bends t).filter fun u => decide (max F.far G.far < u))).length ≤ 16777216 := by omega
  simp [h5, h7, turns, -List.filter_append]
def gap (F : Fm) (s : St) (G : Fm) (t : St) (u : Int) : Int := F.chg s u - G.chg t u
def growth (F : Fm) (s : St) (G : Fm) (t : St) (u : Int) : Int := gap F s G t (u + 1) - gap F s G t u
section
variable (n : Nat) (F : Fm) (V : F.V) (s : St) (h : F.S s) (G : Fm) (W : G.V) (t : St) (h' : G.S t) (u : Int)
include V h W h'
theorem F16 : Fn (n + 3) 16 [F.D, stD s, G.D, stD t, .int u] = some (.int (gap F s G t u)) := by
  rw [Fn_run (D := d_gap) (n + 2) 16 _ rfl (by decide) rfl rfl rfl]
  simp [DefT.run, d_gap, t_gap, n_gap, F10 n, V, W, h, h', gap]
theorem F17 : Fn (n + 4) 17 [F.D, stD s, G.D, stD t, .int u] = some (.int (growth F s G t u)) := by
  rw [Fn_run (D := d_growth) (n + 3) 17 _ rfl (by decide) rfl rfl rfl]
  simp [DefT.run, d_growth, t_growth, n_growth, F16 n F V s h G W t h', growth]
end
def prS (p : St × St) : PyData := .tuple [stD p.1, stD p.2]
@[simp] theorem bg_prS {g1 g2 : Tg} {p : St × St} {Γ : Gm} {S : Pl} : bindG (.tp (.cons g1 (.cons g2 .nil))) (prS p) Γ S = (bindG g1 (stD p.1) Γ S).bind fun q => bindGs (.cons g2 .nil) [stD p.2] q.1 q.2 := rfl
@[simp] theorem pr_ix0 {p : St × St} : ixD (prS p) (.int 0) = some (stD p.1) := rfl
@[simp] theorem pr_ix1 {p : St × St} : ixD (prS p) (.int 1) = some (stD p.2) := rfl
theorem F18 (n : Nat) (F : Fm) (V : F.V) (G : Fm) (W : G.V) (us : List Int) : Fn (n + 4) 18 [F.D, G.D, .tuple (us.map .int)] =
    some (.tuple [.int ((F.walk us (0, 0, 0)).1 - (G.walk us (0, 0, 0)).1), prS ((F.walk us (0, 0, 0)).2, (G.walk us (0, 0, 0)).2)]) := by
  rw [Fn_run (D := d_lead_of) (n + 3) 18 _ rfl (by decide) rfl rfl rfl]
  simp [DefT.run, d_lead_of, t_lead_of, n_lead_of, F12 n F V us (.tuple (us.map .int)) rfl, F12 n G W us (.tuple (us.map .int)) rfl, prS]
theorem F19 (n : Nat) (F : Fm) (V : F.V) (ps : List (Int × Int)) (hl : ps.length ≤ 16777216) : Fn (n + 4) 19 [F.D, .tuple (ps.map tiD)] =
    some (.tuple [.int ((F.walk (ps.map (·.1)) (0, 0, 0)).1 - (F.walk (ps.map (·.2)) (0, 0, 0)).1), prS ((F.walk (ps.map (·.1)) (0, 0, 0)).2, (F.walk (ps.map (·.2)) (0, 0, 0)).2)]) := by
  rw [Fn_run (D := d_loss_of) (n + 3) 19 _ rfl (by decide) rfl rfl rfl]
  simp [DefT.run, d_loss_of, t_loss_of, n_loss_of]
  generalize hF : lcRun _ _ _ _ = o
  rw [lc_map (h := fun x => (ixD x (.int 0)).getD .none) hF (fun x hx => by
    obtain ⟨p, _, rfl⟩ := List.mem_map.mp hx
    simp [lcS]) (by simpa using hl)]
  have e1 : (ps.map tiD).map (fun x => (ixD x (.int 0)).getD .none) = (ps.map (·.1)).map PyData.int := by simp
  have e2 : (ps.map tiD).map (fun x => (ixD x (.int 1)).getD .none) = (ps.map (·.2)).map PyData.int := by simp
  rw [e1]
  simp [F12 n F V (ps.map (·.1)) (.list ((ps.map (·.1)).map .int)) rfl, -List.map_map]
  generalize hG : lcRun _ _ _ _ = o'
  rw [lc_map (h := fun x => (ixD x (.int 1)).getD .none) hG (fun x hx => by
    obtain ⟨p, _, rfl⟩ := List.mem_map.mp hx
    simp [lcS]) (by simpa using hl)]
  rw [e2]
  simp [F12 n F V (ps.map (·.2)) (.list ((ps.map (·.2)).map .int)) rfl, -List.map_map, prS]
end K26.Q
namespace K26.Q
open PySem L2
/-! ### slices -/
theorem cut_from {xs : List PyData} (k : Nat) : cutD xs (some (k : Int)) none = xs.drop k := by
  unfold cutD
  simp only [HT.sIx_none, HT.sIx_nat]
  by_cases h : k ≤ xs.length
  · rw [Nat.min_eq_left h]
    exact List.take_of_length_le (by simp)
  · rw [Nat.min_eq_right (by omega), List.drop_of_length_le (Nat.le_refl _), List.drop_of_length_le (by omega)]
    simp
theorem cut_to {xs : List PyData} (k : Nat) : cutD xs none (some (k : Int)) = xs.take k := by
  unfold cutD
  simp only [HT.sIx_none, HT.sIx_nat]
  simp only [List.drop_zero, Nat.sub_zero]
  by_cases h : k ≤ xs.length
  · rw [Nat.min_eq_left h]
  · rw [Nat.min_eq_right (by omega), List.take_of_length_le (Nat.le_refl _), List.take_of_length_le (by omega)]
@[simp] theorem cut_f1 {xs : List PyData} : cutD xs (some 1) none = xs.drop 1 := cut_from 1
@[simp] theorem cut_t1 {xs : List PyData} : cutD xs none (some 1) = xs.take 1 := cut_to 1
@[simp] theorem cut_t2 {xs : List PyData} : cutD xs none (some 2) = xs.take 2 := cut_to 2
theorem cut_tm1 {xs : List PyData} (h : xs ≠ []) : cutD xs none (some (-1)) = xs.dropLast := by
  have hl : 0 < xs.length := List.length_pos_iff.mpr h
  have e : HT.sIx xs.length xs.length (some (-1)) = xs.length - 1 := by
    unfold HT.sIx
    simp only
    rw [if_pos (by omega)]
    omega
  unfold cutD
  rw [e]
  simp only [HT.sIx_none, List.drop_zero, Nat.sub_zero]
  exact List.dropLast_eq_take.symm
@[simp] theorem sl_t {xs : List PyData} {lo hi : Option Int} : slD (.tuple xs) lo hi = some (.tuple (cutD xs lo hi)) := rfl
@[simp] theorem sl_l {xs : List PyData} {lo hi : Option Int} : slD (.list xs) lo hi = some (.list (cutD xs lo hi)) := rfl
/-! ### ascending -/
def ascB : List PyData → Bool
  | x :: y :: r => W.dataLt x y && ascB (y :: r)
  | _ => true
theorem F20 (n : Nat) (xs : List PyData) (h : ∀ x ∈ xs, ∀ y ∈ xs, cmpD .Lt x y = some (W.dataLt x y)) (hl : xs.length ≤ 16777216) : Fn (n + 1) 20 [.tuple xs] = some (.bool (ascB xs)) := by
  rw [Fn_run (D := d_is_ascending) n 20 _ rfl (by decide) rfl rfl rfl]
  simp [DefT.run, d_is_ascending, t_is_ascending, n_is_ascending]
  generalize hF : lcRun _ _ _ _ = o
  have hz : ∀ z ∈ xs.zipWith (fun x y => PyData.tuple [x, y]) (xs.drop 1), ∃ x ∈ xs, ∃ y ∈ xs, z = .tuple [x, y] := by
    intro z hz
    rw [List.mem_iff_getElem?] at hz
    obtain ⟨i, hi⟩ := hz
    rw [List.getElem?_zipWith] at hi
    cases h1 : xs[i]? with
    | none => rw [h1] at hi; cases hi
    | some x =>
      cases h2 : (xs.drop 1)[i]? with
      | none => rw [h1, h2] at hi; cases hi
      | some y =>
        rw [h1, h2] at hi
        cases hi
        exact ⟨x, List.mem_of_getElem? h1, y, List.mem_of_mem_drop (List.mem_of_getElem? h2), rfl⟩
  simp only [List.drop_one] at hz
  rw [lc_map (h := fun z => match z with
    | .tuple [x, y] => .bool (W.dataLt x y)
    | _ => .none) hF (fun z hz' => by
    obtain ⟨x, hx, y, hy, rfl⟩ := hz z hz'
    simp [lcS, h x hx y hy]) (by simp; omega)]
  have fin : ∀ xs : List PyData, boolsD ((List.zipWith (fun x y => PyData.tuple [x, y]) xs xs.tail).map (fun z => match z with
    | .tuple [x, y] => .bool (W.dataLt x y)
    | _ => .none)) = some ((List.zipWith (fun x y => W.dataLt x y) xs xs.tail)) ∧ (List.zipWith (fun x y => W.dataLt x y) xs xs.tail).all id = ascB xs := by
    intro xs
    clear hz hF h hl
    induction xs with
    | nil => exact ⟨rfl, rfl⟩
    | cons x r ih =>
      cases r with
      | nil => exact ⟨rfl, rfl⟩
      | cons y r =>
        obtain ⟨i1, i2⟩ := ih
        refine ⟨?_, ?_⟩
        · simp only [List.tail_cons, List.zipWith_cons_cons, List.map_cons] at i1 ⊢
          simp only [boolsD, i1]
          rfl
        · simp only [List.tail_cons, List.zipWith_cons_cons, List.all_cons] at i2 ⊢
          rw [i2]
          rfl
  obtain ⟨e1, e2⟩ := fin xs
  simp [e1, e2, -List.map_zipWith]
/-! ### tables of numbers -/
abbrev Rw := (St × St) × Int
def rwD (r : Rw) : PyData := .tuple [stD r.1.1, stD r.1.2, .int r.2]
def kSt (s : St) : NestedKey := .tup [.num s.1, .num s.2.1, .num s.2.2]
def kS (p : St × St) : NestedKey := .tup [kSt p.1, kSt p.2]
def encK (rows : List Rw) : List (PyData × PyData) := rows.map fun r => (prS r.1, .int r.2)
theorem key_pr (p : St × St) : keyOf (prS p) = some (kS p) := by simp [prS, stD, keyOf, keysOf, kS, kSt]
theorem kS_inj {p q : St × St} (h : kS p = kS q) : p = q := by
  obtain ⟨⟨a, b, c⟩, d, e, f⟩ := p
  obtain ⟨⟨a', b', c'⟩, d', e', f'⟩ := q
  simp [kS, kSt] at h
  obtain ⟨⟨rfl, rfl, rfl⟩, rfl, rfl, rfl⟩ := h
  rfl
theorem kS_dep (p : St × St) : (kS p).depth ≤ 8 := by
  simp [kS, kSt, NestedKey.depth, NestedKey.depthAll]
theorem kS_data (p : St × St) : (kS p).data = prS p := keyOf_data _ _ (key_pr p)
theorem look_enc (p : St × St) : ∀ rows : List Rw, lookD (encK rows) (kS p) = (rows.lookup p).map .int
  | [] => rfl
  | r :: rows => by
    have ih := look_enc p rows
    show lookD ((prS r.1, .int r.2) :: encK rows) (kS p) = _
    unfold lookD
    rw [key_pr]
    by_cases e : r.1 = p
    · subst e
      rw [if_pos rfl]
      obtain ⟨k, v⟩ := r
      simp [List.lookup]
    · rw [if_neg (fun z => e (kS_inj (Option.some.inj z))), ih]
      obtain ⟨k, v⟩ := r
      have e' : (p == k) = false := by simpa using fun z => e z.symm
      simp [List.lookup, e']
@[simp] theorem in_enc {p : St × St} {rows : List Rw} : cmpD .In (prS p) (.dict (encK rows)) = some (rows.lookup p).isSome := by
  show ((keyOf (prS p)).bind fun k => if k.depth ≤ 8 then some (lookD (encK rows) k).isSome else none) = _
  rw [key_pr]
  simp [kS_dep, look_enc]
@[simp] theorem nin_enc {p : St × St} {rows : List Rw} : cmpD .NotIn (prS p) (.dict (encK rows)) = some (!(rows.lookup p).isSome) := by
  show ((keyOf (prS p)).bind fun k => if k.depth ≤ 8 then some (!(lookD (encK rows) k).isSome) else none) = _
  rw [key_pr]
  simp [kS_dep, look_enc]
@[simp] theorem ix_enc {p : St × St} {rows : List Rw} : ixD (.dict (encK rows)) (prS p) = (rows.lookup p).map .int := by
  show ((keyOf (prS p)).bind fun k => if k.depth ≤ 8 then lookD (encK rows) k else none) = _
  rw [key_pr]
  simp [kS_dep, look_enc]
theorem get_enc {p : St × St} {rows : List Rw} {x : PyData} : getD' (.dict (encK rows)) (prS p) x = some (((rows.lookup p).map .int).getD x) := by
  show ((keyOf (prS p)).bind fun k => if k.depth ≤ 8 then some ((lookD (encK rows) k).getD x) else none) = _
  rw [key_pr]
  simp [kS_dep, look_enc]
theorem store_new (p : St × St) (v : Int) : ∀ rows : List Rw, p ∉ rows.map (·.1) → storeD (encK rows) (kS p) (.int v) = encK (rows ++ [(p, v)])
  | [], _ => by simp [encK, storeD, kS_data]
  | r :: rows, h => by
    simp only [List.map_cons, List.mem_cons, not_or] at h
    have ih := store_new p v rows h.2
    show storeD ((prS r.1, .int r.2) :: encK rows) (kS p) (.int v) = _
    unfold storeD
    rw [key_pr, if_neg (fun z => h.1 (kS_inj (Option.some.inj z)).symm), ih]
    rfl
theorem dic_rows (rows : List Rw) (h : (rows.map (·.1)).Nodup) : dicD (.list (rows.map fun r => .tuple [prS r.1, .int r.2])) = some (.dict (encK rows)) := by
  have gen : ∀ (rows acc : List Rw), ((acc ++ rows).map (·.1)).Nodup → (rows.map fun r => PyData.tuple [prS r.1, .int r.2]).foldlM (m := Option) (fun (kvs : List (PyData × PyData)) (p : PyData) => match p with
    | .tuple [.tuple ks, v] => (keyOf (.tuple ks)).bind fun k => if k.depth ≤ 8 then some (storeD kvs k v) else none
    | _ => none) (encK acc) = some (encK (acc ++ rows)) := by
    intro rows
    induction rows with
    | nil => intro acc _; simp
    | cons r rows ih =>
      intro acc hn
      rw [List.map_cons, List.foldlM_cons]
      have hr : r.1 ∉ acc.map (·.1) := by
        rw [List.map_append, List.nodup_append] at hn
        intro z
        exact hn.2.2 _ z _ (by simp) rfl
      have e : (match PyData.tuple [prS r.1, PyData.int r.2] with
        | .tuple [.tuple ks, v] => (keyOf (.tuple ks)).bind fun k => if k.depth ≤ 8 then some (storeD (encK acc) k v) else none
        | _ => none) = some (encK (acc ++ [r])) := by
        show ((keyOf (prS r.1)).bind fun k => if k.depth ≤ 8 then some (storeD (encK acc) k (.int r.2)) else none) = _
        rw [key_pr]
        simp [kS_dep, store_new _ _ _ hr]
      rw [e]
      have := ih (acc ++ [r]) (by simpa using hn)
      simpa using this
  have := gen rows [] (by simpa using h)
  exact congrArg (Option.map PyData.dict) this
end K26.Q
namespace K26.Q
open PySem L2
def rowB (F G : Fm) : PyData → Bool
  | .tuple [a, b, c] => isI c && stB F a && stB G b
  | _ => false
def tabB (F G : Fm) : PyData → Bool
  | .tuple xs => xs.all (rowB F G)
  | _ => false
def rowS (F G : Fm) (_ : Unit) (d : PyData) : Option Unit := if rowB F G d then some () else none
theorem rowS_fold (F G : Fm) : ∀ xs : List PyData, xs.foldlM (rowS F G) () = if xs.all (rowB F G) then some () else none
  | [] => rfl
  | x :: xs => by
    rw [List.foldlM_cons]
    unfold rowS
    cases h : rowB F G x
    · simp [h]
    · simp only [List.all_cons, h, Bool.true_and, if_true]
      exact rowS_fold F G xs
theorem row_loop (n : Nat) (F G : Fm) (am : PyData) (xs : List PyData) {o : Option Out}
    (hF : forRun (forS (cfN (n + 3)) (.nm 4) (.cons (.ife (.boo .Or (.cons (.not (.isa (.var 4) .tuple)) (.cons (.cmp .NotEq (.bi .len (.var 4)) (.int 3)) (.cons (.not (.call 0 (.cons (.ix (.var 4) (.int 2)) .nil))) .nil)))) (.cons (.ret .non) .nil) .nil) (.cons (.ife (.boo .Or (.cons (.not (.call 8 (.cons (.var 0) (.cons (.ix (.var 4) (.int 0)) .nil)))) (.cons (.not (.call 8 (.cons (.var 1) (.cons (.ix (.var 4) (.int 1)) .nil)))) .nil))) (.cons (.ret .non) .nil) .nil) .nil)))
      xs [some (.d F.D), some (.d G.D), some (.d am), some (.d (.tuple xs)), none, none] [] = o) :
    if xs.all (rowB F G) then ∃ j, o = some (.nx [some (.d F.D), some (.d G.D), some (.d am), some (.d (.tuple xs)), j, none] []) else o = some (.rt .none []) := by
  have key := for_opt (R := fun (b : Unit) Γ => ∃ j, Γ = [some (.d F.D), some (.d G.D), some (.d am), some (.d (.tuple xs)), j, none]) (step := rowS F G) (bad := .none) () hF
  replace key := key (by
    rintro b Γ x hx ⟨j, rfl⟩
    unfold rowS
    cases x with
    | tuple ys =>
      by_cases hlen : ys.length = 3
      · obtain ⟨a, b, c, rfl⟩ : ∃ a b c, ys = [a, b, c] := by
          match ys, hlen with
          | [a, b, c], _ => exact ⟨a, b, c, rfl⟩
        have e : rowB F G (.tuple [a, b, c]) = (isI c && stB F a && stB G b) := rfl
        rw [e]
        simp [forS, F0, F8]
        cases isI c
        · simp
        · cases hA : stB F a
          · simp [F8, hA]
          · cases hB : stB G b <;> simp [F8, hA, hB]
      · have hne : ¬ ((ys.length : Int) = 3) := by omega
        have hf : rowB F G (.tuple ys) = false := by
          unfold rowB
          split
          · rename_i h
            cases h
            exact absurd rfl hlen
          · rfl
        rw [hf]
        simp [forS, hne]
    | _ => simp [forS, rowB]) ⟨none, rfl⟩
  rw [rowS_fold] at key
  split
  · rename_i h
    rw [if_pos h] at key
    obtain ⟨Γ', h1, j, rfl⟩ := key
    exact ⟨j, h1⟩
  · rename_i h
    rw [if_neg h] at key
    exact key
/-- a table that is none: None -/
theorem F21_bad (n : Nat) (F G : Fm) (am d : PyData) (h : tabB F G d = false) : Fn (n + 4) 21 [F.D, G.D, am, d] = some .none := by
  rw [Fn_run (D := d_known_numbers) (n + 3) 21 _ rfl (by decide) rfl rfl rfl]
  cases d with
  | tuple xs =>
    simp [DefT.run, d_known_numbers, t_known_numbers, n_known_numbers]
    generalize hF : forRun _ _ _ _ = o
    have key := row_loop n F G am xs hF
    have h : xs.all (rowB F G) = false := h
    rw [h] at key
    simp only [Bool.false_eq_true, if_false] at key
    simp [key]
  | _ => simp [DefT.run, d_known_numbers, t_known_numbers, n_known_numbers]
theorem rwD_plain (r : Rw) : (rwD r).plain = true := by simp [rwD, stD, PyData.plain, PyData.plainAll]
theorem lt_rw (r q : Rw) : cmpD .Lt (rwD r) (rwD q) = some (W.dataLt (rwD r) (rwD q)) := by
  unfold rwD
  simp only [cmpD]
  rw [if_pos]
  simp [stD, PyData.plain, PyData.plainAll, W.alike, W.alikeAll, PyData.depth, PyData.depthAll, DL]
theorem maxI_some : ∀ (ns : List Int), ns ≠ [] → ∃ m, maxI ns = some m
  | [], h => absurd rfl h
  | n :: ns, _ => ⟨_, rfl⟩
/-- a table of numbers, ascending, no pair twice, with the start: its numbers, if none is greater than the amount -/
theorem F21 (n : Nat) (F : Fm) (V : F.V) (G : Fm) (W : G.V) (am : Int) (rows : List Rw) (hS : ∀ r ∈ rows, F.S r.1.1 ∧ G.S r.1.2) (nd : (rows.map (·.1)).Nodup) (asc : ascB (rows.map rwD) = true) (v m : Int)
    (hv : rows.lookup ((0, 0, 0), (0, 0, 0)) = some v) (hv0 : 0 ≤ v) (hm : maxI (rows.map (·.2)) = some m) (hma : m ≤ am) (hl : rows.length ≤ 16777216) :
    Fn (n + 4) 21 [F.D, G.D, .int am, .tuple (rows.map rwD)] = some (.dict (encK rows)) := by
  rw [Fn_run (D := d_known_numbers) (n + 3) 21 _ rfl (by decide) rfl rfl rfl]
  have hall : (rows.map rwD).all (rowB F G) = true := by
    rw [List.all_eq_true]
    intro x hx
    obtain ⟨r, hr, rfl⟩ := List.mem_map.mp hx
    have := hS r hr
    simp [rowB, rwD, isI, stB_to this.1, stB_to this.2]
  have h20 : Fn (n + 3) 20 [.tuple (rows.map rwD)] = some (.bool true) := by
    rw [F20 (n + 2) _ (fun x hx y hy => ?_) (by simpa using hl), asc]
    obtain ⟨r, _, rfl⟩ := List.mem_map.mp hx
    obtain ⟨q, _, rfl⟩ := List.mem_map.mp hy
    exact lt_rw r q
  simp [DefT.run, d_known_numbers, t_known_numbers, n_known_numbers]
  generalize hF : forRun _ _ _ _ = o
  have key := row_loop n F G (.int am) _ hF
  rw [hall] at key
  simp only [if_true] at key
  obtain ⟨j, rfl⟩ := key
  simp
  generalize hG : lcRun _ _ _ _ = o'
  rw [lc_map (h := fun x => match x with
    | .tuple [a, b, c] => .tuple [.tuple [a, b], c]
    | _ => .none) hG (fun x hx => by
    obtain ⟨r, _, rfl⟩ := List.mem_map.mp hx
    simp [lcS, rwD]) (by simpa using hl)]
  have e1 : (rows.map rwD).map (fun x => match x with
    | .tuple [a, b, c] => PyData.tuple [.tuple [a, b], c]
    | _ => .none) = rows.map fun r => .tuple [prS r.1, .int r.2] := by
    rw [List.map_map]
    rfl
  rw [e1]
  have hst : PyData.tuple [.tuple [.int 0, .int 0, .int 0], .tuple [.int 0, .int 0, .int 0]] = prS ((0, 0, 0), (0, 0, 0)) := rfl
  have hvm : vmxD (.dict (encK rows)) = some (.int m) := by
    unfold vmxD encK
    simp only [List.map_map]
    have : (rows.map ((fun x => x.2) ∘ fun r : Rw => (prS r.1, PyData.int r.2))) = (rows.map (·.2)).map .int := by simp
    rw [this, intsD_map]
    simp [hm]
  have hlen : (encK rows).length = rows.length := by simp [encK]
  have hv1 : ¬ v < 0 := by omega
  simp [dic_rows rows nd, h20, hst, get_enc, hv, hvm, hlen, hv1, hma, -List.map_map]
/-! ### near and far -/
def rng (j : Int) : List Int := (List.range j.toNat).map fun i : Nat => (i : Int)
theorem rng_mem {j x : Int} : x ∈ rng j ↔ 0 ≤ x ∧ x < j := by
  unfold rng
  rw [List.mem_map]
  constructor
  · rintro ⟨i, hi, rfl⟩
    rw [List.mem_range] at hi
    omega
  · rintro ⟨h1, h2⟩
    exact ⟨x.toNat, by rw [List.mem_range]; omega, by omega⟩
theorem rng_len (j : Int) : (rng j).length = j.toNat := by simp [rng]
@[simp] theorem lrg_1 {j : Int} : lrgD [.int j] = if -(2 ^ 62) ≤ j ∧ j ≤ 16777216 then some ((rng j).map .int) else none := by
  show (if -(2 ^ 62) ≤ j ∧ j ≤ 16777216 then some ((List.range j.toNat).map fun (i : Nat) => PyData.int i) else none) = _
  unfold rng
  rw [List.map_map]
  rfl
def nearL (p0 : Int) : Option Int → List Int
  | none => rng p0
  | some m => rng (min p0 (m + 1))
def farL (p0 : Int) (pts : List Int) : Option Int → List Int
  | none => pts
  | some m => if p0 ≤ m then pts.filter (fun u => decide (u < m)) ++ [m] else []
theorem F22 (n : Nat) (p0 : Int) (r : List Int) (h0 : 0 ≤ p0) (h1 : p0 ≤ 16777216) (hl : r.length ≤ 1000) (mo : Option Int) (hm : ∀ m, mo = some m → 0 ≤ m) :
    Fn (n + 1) 22 [.list ((p0 :: r).map .int), optI mo] = some (.tuple [.list ((nearL p0 mo).map .int), .list ((farL p0 (p0 :: r) mo).map .int)]) := by
  rw [Fn_run (D := d_near_and_far) n 22 _ rfl (by decide) rfl rfl rfl]
  cases mo with
  | none =>
    have h2 : -(2 ^ 62) ≤ p0 ∧ p0 ≤ 16777216 := by omega
    have h2 : -4611686018427387904 ≤ p0 := by omega
    simp [DefT.run, d_near_and_far, t_near_and_far, n_near_and_far, h1, h2, nearL, farL]
  | some m =>
    have hm := hm m rfl
    have h2 : -4611686018427387904 ≤ min p0 (m + 1) := by omega
    have h3 : min p0 (m + 1) ≤ 16777216 := by omega
    simp [DefT.run, d_near_and_far, t_near_and_far, n_near_and_far, h2, h3, nearL, farL]
    generalize hF : lcRun _ _ _ _ = o
    have hF : lcRun _ ((p0 :: r).map .int) _ _ = o := hF
    rw [lc_fil (p := ltB m) hF (fun x hx => by
      obtain ⟨i, _, rfl⟩ := List.mem_map.mp hx
      simp [lcS, ltB]
      by_cases q : i < m <;> simp [q]) (by simp; omega)]
    rw [fil_int _ (fun u => decide (u < m)) _ (fun n => rfl)]
    have h4 := List.length_filter_le (fun u => decide (u < m)) (p0 :: r)
    simp only [List.length_cons] at h4
    have h5 : ((p0 :: r).filter fun u => decide (u < m)).length + 1 ≤ 16777216 := by omega
    by_cases q : p0 ≤ m
    · simp [h5, q]
    · simp [h5, q]
end K26.Q
namespace K26.Q
open PySem L2
theorem fold_unit {α : Type} (p : α → Bool) : ∀ xs : List α, xs.foldlM (m := Option) (fun (_ : Unit) x => if p x then some () else none) () = if xs.all p then some () else none
  | [] => rfl
  | x :: xs => by
    rw [List.foldlM_cons]
    cases h : p x
    · simp [h]
    · simp only [List.all_cons, h, Bool.true_and, if_true]
      exact fold_unit p xs
theorem tiV_last : ∀ {ts : List (Int × Int)} {b : Int × Int}, tiV b ts → 0 ≤ b.1 → b.2 ≤ 12 → ∀ t ∈ ts, 0 ≤ t.1 ∧ t.1 ≤ 12
  | [], _, _, _, _, t, h => nomatch h
  | x :: ts, b, ⟨h1, h2, h3, h4, h5⟩, q1, q2, t, h => (List.mem_cons.mp h).elim (fun e => by rw [e]; omega) (tiV_last h5 (by simp only; omega) (by simp) t)
theorem far_le {F : Fm} (V : F.V) : 0 ≤ F.far ∧ F.far ≤ 27 := by
  have hl : 0 ≤ F.last.1 ∧ F.last.1 ≤ 12 := by
    unfold Fm.last
    cases h : F.tiers.getLast? with
    | none => simp
    | some t => exact tiV_last V.t3 (by simp) (by simp) t (List.mem_of_getLast? h)
  have hi := V.i
  have hc := V.c
  unfold Fm.far
  cases hs : F.strk with
  | none => simp only; omega
  | some k => have := V.s k hs; simp only; omega
def goalB (rows : List Rw) (p q : St × St) (w : Int) : Bool := match rows.lookup q with
  | none => false
  | some v => !decide (v < (rows.lookup p).getD 0 + w)
def neverB (F G : Fm) (mo : Option Int) (rows : List Rw) (p : St × St) : Bool :=
  if mo = none ∧ 0 < growth F p.1 G p.2 ((turns F p.1 G p.2).getLast?.getD 0) then false
  else (nearL (max F.far G.far) mo ++ farL (max F.far G.far) (turns F p.1 G p.2) mo).all fun u => goalB rows p (F.nxt p.1 u, G.nxt p.2 u) (gap F p.1 G p.2 u)
theorem near_far_len {F G : Fm} (V : F.V) (W : G.V) (p : St × St) (mo : Option Int) : (nearL (max F.far G.far) mo).length ≤ 27 ∧ (farL (max F.far G.far) (turns F p.1 G p.2) mo).length ≤ 14 := by
  have h1 := far_le V
  have h2 := far_le W
  have h3 := turns_len F p.1 G p.2
  cases mo with
  | none => simp only [nearL, farL, rng_len]; omega
  | some m =>
    have h4 := List.length_filter_le (fun u => decide (u < m)) (turns F p.1 G p.2)
    simp only [nearL, farL, rng_len]
    split <;> simp <;> omega
theorem F22' (n : Nat) {F G : Fm} (V : F.V) (W : G.V) (p : St × St) (mo : Option Int) (hm : ∀ m, mo = some m → 0 ≤ m) :
    Fn (n + 1) 22 [.list ((turns F p.1 G p.2).map .int), optI mo] = some (.tuple [.list ((nearL (max F.far G.far) mo).map .int), .list ((farL (max F.far G.far) (turns F p.1 G p.2) mo).map .int)]) := by
  have h1 := far_le V
  have h2 := far_le W
  have h3 := turns_len F p.1 G p.2
  have h4 : (turns F p.1 G p.2).length = (uniqI ((F.bends p.1 ++ G.bends p.2).filter fun u => decide (max F.far G.far < u))).length + 1 := rfl
  exact F22 n (max F.far G.far) (uniqI ((F.bends p.1 ++ G.bends p.2).filter fun u => decide (max F.far G.far < u))) (by omega) (by omega) (by omega) mo hm
theorem turns_last (F : Fm) (s : St) (G : Fm) (t : St) : (turns F s G t).getLast? = some ((turns F s G t).getLast?.getD 0) := by
  cases h : (turns F s G t).getLast? with
  | none => simp [turns] at h
  | some u => rfl
theorem goal_isn (a b : Int) : isD (.int a) none = some false := rfl
theorem F23 (n : Nat) {F G : Fm} (V : F.V) (W : G.V) (mo : Option Int) (hm : ∀ m, mo = some m → 0 ≤ m) (rows : List Rw) (p : St × St) (hp : F.S p.1 ∧ G.S p.2) {v0 : Int} (h0 : rows.lookup p = some v0) :
    Fn (n + 5) 23 [F.D, G.D, optI mo, .dict (encK rows), prS p] = some (.bool (neverB F G mo rows p)) := by
  rw [Fn_run (D := d_is_never_at) (n + 4) 23 _ rfl (by decide) rfl rfl rfl]
  obtain ⟨l, hlast⟩ : ∃ l, (turns F p.1 G p.2).getLast? = some l := ⟨_, turns_last F p.1 G p.2⟩
  have hlen := near_far_len V W p mo
  have h15 := F15 (n + 1) F V p.1 hp.1 G W p.2 hp.2
  have h22 := F22' (n + 3) V W p mo hm
  have h17 := F17 n F V p.1 hp.1 G W p.2 hp.2 l
  have hsum : (nearL (max F.far G.far) mo).length + (farL (max F.far G.far) (turns F p.1 G p.2) mo).length ≤ 16777216 := by omega
  have tail : ∀ o, forRun (forS (cfN (n + 4)) (.nm 10) (.cons (.set 11 (.tup (.cons (.call 11 (.cons (.var 0) (.cons (.var 5) (.cons (.var 10) .nil)))) (.cons (.call 11 (.cons (.var 1) (.cons (.var 6) (.cons (.var 10) .nil)))) .nil)))) (.cons (.ife (.boo .Or (.cons (.cmp .NotIn (.var 11) (.var 3)) (.cons (.cmp .Lt (.ix (.var 3) (.var 11)) (.bin .Add (.ix (.var 3) (.var 4)) (.call 16 (.cons (.var 0) (.cons (.var 5) (.cons (.var 1) (.cons (.var 6) (.cons (.var 10) .nil)))))))) .nil))) (.cons (.ret (.bl false)) .nil) .nil) .nil)))
      ((nearL (max F.far G.far) mo ++ farL (max F.far G.far) (turns F p.1 G p.2) mo).map .int) [some (.d F.D), some (.d G.D), some (.d (optI mo)), some (.d (.dict (encK rows))), some (.d (prS p)), some (.d (stD p.1)), some (.d (stD p.2)), some (.d (.list ((turns F p.1 G p.2).map .int))),
        some (.d (.list ((nearL (max F.far G.far) mo).map .int))), some (.d (.list ((farL (max F.far G.far) (turns F p.1 G p.2) mo).map .int))), none, none] [] = o →
      if (nearL (max F.far G.far) mo ++ farL (max F.far G.far) (turns F p.1 G p.2) mo).all (fun u => goalB rows p (F.nxt p.1 u, G.nxt p.2 u) (gap F p.1 G p.2 u)) then ∃ Γ', o = some (.nx Γ' []) else o = some (.rt (.bool false) []) := by
    intro o hF
    have key := for_optm (R := fun (_ : Unit) Γ => ∃ a7 a8 a9 j1 j2, Γ = [some (.d F.D), some (.d G.D), some (.d (optI mo)), some (.d (.dict (encK rows))), some (.d (prS p)), some (.d (stD p.1)), some (.d (stD p.2)), a7, a8, a9, j1, j2])
      (step := fun _ u => if goalB rows p (F.nxt p.1 u, G.nxt p.2 u) (gap F p.1 G p.2 u) then some () else none) (bad := .bool false) () hF
    replace key := key (by
      rintro b Γ u hu ⟨a7, a8, a9, j1, j2, rfl⟩
      have h16 := F16 (n + 1) F V p.1 hp.1 G W p.2 hp.2 u
      have hpr : PyData.tuple [stD (F.nxt p.1 u), stD (G.nxt p.2 u)] = prS (F.nxt p.1 u, G.nxt p.2 u) := rfl
      cases hq : rows.lookup (F.nxt p.1 u, G.nxt p.2 u) with
      | none =>
        have e : goalB rows p (F.nxt p.1 u, G.nxt p.2 u) (gap F p.1 G p.2 u) = false := by simp [goalB, hq]
        rw [e]
        simp [forS, F11 (n + 3), V, W, hpr, hq]
      | some v =>
        have e : goalB rows p (F.nxt p.1 u, G.nxt p.2 u) (gap F p.1 G p.2 u) = !decide (v < v0 + gap F p.1 G p.2 u) := by simp [goalB, hq, h0]
        rw [e]
        by_cases hw : v < v0 + gap F p.1 G p.2 u
        · simp [forS, F11 (n + 3), V, W, hpr, hq, h0, h16, hw]
        · simp [forS, F11 (n + 3), V, W, hpr, hq, h0, h16, hw]) ⟨_, _, _, _, _, rfl⟩
    rw [fold_unit] at key
    split
    · rename_i h
      rw [if_pos h] at key
      obtain ⟨Γ', h1, _⟩ := key
      exact ⟨Γ', h1⟩
    · rename_i h
      rw [if_neg h] at key
      exact key
  unfold neverB
  cases hmo : mo with
  | none =>
    subst hmo
    simp only [optI_n] at h22 tail
    by_cases hg : 0 < growth F p.1 G p.2 l
    · simp [DefT.run, d_is_never_at, t_is_never_at, n_is_never_at, h15, List.getLast?_map, hlast, h17, hg]
    · simp [DefT.run, d_is_never_at, t_is_never_at, n_is_never_at, h15, List.getLast?_map, hlast, h17, hg, h22, hsum]
      generalize hF : forRun _ _ _ _ = o
      have key := tail o (by simpa using hF)
      split at key
      · rename_i h
        obtain ⟨Γ', rfl⟩ := key
        rw [List.all_append] at h
        simp [h]
      · rename_i h
        subst key
        rw [List.all_append] at h
        simp [h]
  | some m =>
    subst hmo
    simp only [optI_s] at h22 tail
    simp [DefT.run, d_is_never_at, t_is_never_at, n_is_never_at, h15, h22, hsum]
    generalize hF : forRun _ _ _ _ = o
    have key := tail o (by simpa using hF)
    split at key
    · rename_i h
      obtain ⟨Γ', rfl⟩ := key
      rw [List.all_append] at h
      simp [h]
    · rename_i h
      subst key
      rw [List.all_append] at h
      simp [h]
end K26.Q
namespace K26.Q
open PySem L2
def lc2S (c : Cf) (Γ : Gm) (elt : Tm) (tg : Tg) (ifs : Os) (tg1 : Tg) (it1 : Im) (ifs1 : Os) (own own1 : List Nat) : PyData → Pl → Option (List PyData × Pl) := fun x S => (bindG tg x (wipeG Γ own) S).bind fun b => (evC c ifs b.1 b.2).bind fun t =>
  cond t.1 ((evI c it1 b.1 t.2).bind fun p1 => lcRun (lcS c b.1 elt tg1 ifs1 own1) p1.1 p1.2 []) (some ([], t.2))
@[simp] theorem e_lc2 {c : Cf} {Γ : Gm} {S : Pl} {elt : Tm} {tg : Tg} {it : Im} {ifs : Os} {tg1 : Tg} {it1 : Im} {ifs1 : Os} {own own1 : List Nat} : evE c (.lc2 elt tg it ifs tg1 it1 ifs1 own own1) Γ S =
    (evI c it Γ S).bind fun p => (lcRun (lc2S c Γ elt tg ifs tg1 it1 ifs1 own own1) p.1 p.2 []).bind fun q => some (.list q.1, q.2) := rfl
theorem lcRun_flat {f : PyData → Pl → Option (List PyData × Pl)} {g : PyData → List PyData} {S : Pl} : ∀ (xs acc : List PyData), (∀ x ∈ xs, f x S = some (g x, S)) → acc.length + (xs.flatMap g).length ≤ SL → lcRun f xs S acc = some (acc ++ xs.flatMap g, S)
  | [], acc, _, _ => by simp [lcRun]
  | x :: xs, acc, hf, hl => by
    unfold lcRun
    rw [hf x (by simp)]
    simp only [List.flatMap_cons, List.length_append] at hl
    simp only [Option.bind_some]
    rw [if_pos (by omega), lcRun_flat xs _ (fun y hy => hf y (by simp [hy])) (by simp only [List.length_append]; omega)]
    simp
theorem lc_flat {f : PyData → Pl → Option (List PyData × Pl)} {g : PyData → List PyData} {S : Pl} {xs : List PyData} {o : Option (List PyData × Pl)} (hF : lcRun f xs S [] = o) (hf : ∀ x ∈ xs, f x S = some (g x, S)) (hl : (xs.flatMap g).length ≤ 16777216) : o = some (xs.flatMap g, S) := by
  rw [← hF, lcRun_flat xs [] hf (by simpa using hl)]
  simp
/-- filter and map -/
theorem lcRun_fm {f : PyData → Pl → Option (List PyData × Pl)} {p : PyData → Bool} {h : PyData → PyData} {S : Pl} : ∀ (xs acc : List PyData), (∀ x ∈ xs, f x S = some (cond (p x) [h x] [], S)) → acc.length + xs.length ≤ SL → lcRun f xs S acc = some (acc ++ (xs.filter p).map h, S)
  | [], acc, _, _ => by simp [lcRun]
  | x :: xs, acc, hf, hl => by
    unfold lcRun; rw [show SL = 16777216 from rfl] at hl ⊢
    rw [hf x (by simp)]
    simp only [List.length_cons] at hl
    have ih := fun acc h' => lcRun_fm (f := f) (p := p) (h := h) (S := S) xs acc (fun y hy => hf y (by simp [hy])) h'
    cases hp : p x
    · simp only [Option.bind_some, cond, List.length_nil]
      rw [if_pos (by omega), ih _ (by rw [show SL = 16777216 from rfl]; simp; omega)]
      simp [hp]
    · simp only [Option.bind_some, cond, List.length_singleton]
      rw [if_pos (by omega), ih _ (by rw [show SL = 16777216 from rfl]; simp; omega)]
      simp [hp]
theorem lc_fm {f : PyData → Pl → Option (List PyData × Pl)} {p : PyData → Bool} {h : PyData → PyData} {S : Pl} {xs : List PyData} {o : Option (List PyData × Pl)} (hF : lcRun f xs S [] = o) (hf : ∀ x ∈ xs, f x S = some (cond (p x) [h x] [], S)) (hl : xs.length ≤ 16777216) : o = some ((xs.filter p).map h, S) := by
  rw [← hF, lcRun_fm xs [] hf (by simpa using hl)]
  simp
def triedL (near far : List Int) : List (Int × Int) := (near ++ far.take 1).flatMap (fun more => (near.filter fun less => decide (less ≤ more)).map fun less => (less, more)) ++ far.map fun u => (u, u)
def thriftB (F : Fm) (mo : Option Int) (rows : List Rw) (p : St × St) : Bool :=
  (triedL (nearL F.far mo) (farL F.far (turns F p.1 F p.2) mo)).all fun q => goalB rows p (F.nxt p.1 q.1, F.nxt p.2 q.2) (F.chg p.1 q.1 - F.chg p.2 q.2)
def leB (b : Int) : PyData → Bool
  | .int i => decide (i ≤ b)
  | _ => false
def pairWith (d : PyData) (near : List Int) : List PyData := match d with
  | .int m => (near.filter fun less => decide (less ≤ m)).map fun less => tiD (less, m)
  | _ => []
theorem F24 (n : Nat) {F : Fm} (V : F.V) (mo : Option Int) (hm : ∀ m, mo = some m → 0 ≤ m) (rows : List Rw) (p : St × St) (hp : F.S p.1 ∧ F.S p.2) {v0 : Int} (h0 : rows.lookup p = some v0) :
    Fn (n + 5) 24 [F.D, optI mo, .dict (encK rows), prS p] = some (.bool (thriftB F mo rows p)) := by
  rw [Fn_run (D := d_is_thrifty_at) (n + 4) 24 _ rfl (by decide) rfl rfl rfl]
  have hlen := near_far_len V V p mo
  have h15 := F15 (n + 1) F V p.1 hp.1 F V p.2 hp.2
  have h22 := F22' (n + 3) V V p mo hm
  rw [Int.max_self] at hlen h22
  unfold thriftB
  generalize nearL F.far mo = near at hlen h22
  generalize farL F.far (turns F p.1 F p.2) mo = far at hlen h22
  have hsum : near.length + min 1 far.length ≤ 16777216 := by omega
  simp [DefT.run, d_is_thrifty_at, t_is_thrifty_at, n_is_thrifty_at, h15, h22, hsum]
  generalize hF : lcRun _ _ _ _ = o
  have inner : ∀ x ∈ near.map PyData.int ++ (far.map PyData.int).take 1, lc2S (cfN (n + 4)) [some (.d F.D), some (.d (optI mo)), some (.d (.dict (encK rows))), some (.d (prS p)), some (.d (stD p.1)), some (.d (stD p.2)), some (.d (.list (near.map .int))), some (.d (.list (far.map .int))), none, none, none, none, none]
      (.tup (.cons (.var 9) (.cons (.var 10) .nil))) (.nm 10) .no (.nm 9) (.seq (.var 6)) (.so (.cmp .LtE (.var 9) (.var 10))) [10, 9] [9] x [] = some (pairWith x near, []) := by
    intro x hx
    obtain ⟨m, rfl⟩ : ∃ m, x = .int m := by
      rcases List.mem_append.mp hx with hx | hx
      · obtain ⟨m, _, rfl⟩ := List.mem_map.mp hx
        exact ⟨m, rfl⟩
      · obtain ⟨m, _, rfl⟩ := List.mem_map.mp (List.mem_of_mem_take hx)
        exact ⟨m, rfl⟩
    simp [lc2S]
    generalize hG : lcRun _ _ _ _ = o'
    rw [lc_fm (p := leB m) (h := fun x => .tuple [x, .int m]) hG (fun y hy => by
      obtain ⟨i, _, rfl⟩ := List.mem_map.mp hy
      simp [lcS, leB]
      by_cases q : i ≤ m <;> simp [q]) (by simp; omega)]
    rw [fil_int _ (fun u => decide (u ≤ m)) _ (fun n => rfl)]
    simp [pairWith, tiD]
  have fl : ∀ l : List Int, (l.map PyData.int).flatMap (fun x => pairWith x near) = (l.flatMap (fun more => (near.filter fun less => decide (less ≤ more)).map fun less => (less, more))).map tiD := by
    intro l
    induction l with
    | nil => rfl
    | cons a l ih =>
      simp only [List.map_cons, List.flatMap_cons, ih, List.map_append]
      congr 1
      simp [pairWith]
  have e1 : (near.map PyData.int ++ (far.map PyData.int).take 1).flatMap (fun x => pairWith x near) = ((near ++ far.take 1).flatMap (fun more => (near.filter fun less => decide (less ≤ more)).map fun less => (less, more))).map tiD := by
    rw [← List.map_take, ← List.map_append, fl]
  have hb : ∀ l : List Int, (l.flatMap (fun more => (near.filter fun less => decide (less ≤ more)).map fun less => (less, more))).length ≤ l.length * 27 := by
    intro l
    induction l with
    | nil => simp
    | cons a l ih =>
      have := List.length_filter_le (fun less => decide (less ≤ a)) near
      simp only [List.flatMap_cons, List.length_append, List.length_map, List.length_cons]
      omega
  have hb1 := hb (near ++ far.take 1)
  simp only [List.length_append, List.length_take] at hb1
  have hb2 : ((near ++ far.take 1).flatMap (fun more => (near.filter fun less => decide (less ≤ more)).map fun less => (less, more))).length ≤ 10000 := by omega
  rw [lc_flat (g := fun x => pairWith x near) hF inner (by rw [e1]; simp only [List.length_map]; omega), e1]
  generalize hT : (near ++ far.take 1).flatMap (fun more => (near.filter fun less => decide (less ≤ more)).map fun less => (less, more)) = T at hb2
  simp
  generalize hG : lcRun _ _ _ _ = o'
  rw [lc_map (h := fun x => .tuple [x, x]) hG (fun y hy => by simp [lcS]) (by simp; omega)]
  have hl2 : T.length + far.length ≤ 16777216 := by omega
  simp [hl2]
  generalize hL : forRun _ _ _ _ = o''
  have eL : T.map tiD ++ far.map ((fun x => PyData.tuple [x, x]) ∘ PyData.int) = (T ++ far.map fun u => (u, u)).map tiD := by
    rw [List.map_append, List.map_map]
    rfl
  rw [eL] at hL
  have key := for_optm (R := fun (_ : Unit) Γ => ∃ a6 a7 a8 j1 j2 j3 j4, Γ = [some (.d F.D), some (.d (optI mo)), some (.d (.dict (encK rows))), some (.d (prS p)), some (.d (stD p.1)), some (.d (stD p.2)), a6, a7, a8, j1, j2, j3, j4])
      (step := fun _ q => if goalB rows p (F.nxt p.1 q.1, F.nxt p.2 q.2) (F.chg p.1 q.1 - F.chg p.2 q.2) then some () else none) (bad := .bool false) () hL
  replace key := key (by
    rintro b Γ q hq ⟨a6, a7, a8, j1, j2, j3, j4, rfl⟩
    have hpr : PyData.tuple [stD (F.nxt p.1 q.1), stD (F.nxt p.2 q.2)] = prS (F.nxt p.1 q.1, F.nxt p.2 q.2) := rfl
    have hti : tiD q = .tuple [.int q.1, .int q.2] := rfl
    cases hl : rows.lookup (F.nxt p.1 q.1, F.nxt p.2 q.2) with
    | none =>
      have e : goalB rows p (F.nxt p.1 q.1, F.nxt p.2 q.2) (F.chg p.1 q.1 - F.chg p.2 q.2) = false := by simp [goalB, hl]
      rw [e]
      simp [forS, hti, F11 (n + 3), V, hpr, hl]
    | some v =>
      have e : goalB rows p (F.nxt p.1 q.1, F.nxt p.2 q.2) (F.chg p.1 q.1 - F.chg p.2 q.2) = !decide (v < v0 + F.chg p.1 q.1 - F.chg p.2 q.2) := by simp [goalB, hl, h0, Int.add_sub_assoc]
      rw [e]
      by_cases hw : v < v0 + F.chg p.1 q.1 - F.chg p.2 q.2
      · simp [forS, hti, F11 (n + 3), F10 (n + 2), V, hp, hpr, hl, h0, hw]
      · simp [forS, hti, F11 (n + 3), F10 (n + 2), V, hp, hpr, hl, h0, hw]) ⟨_, _, _, _, _, _, _, rfl⟩
  rw [fold_unit] at key
  unfold triedL
  rw [hT]
  cases hA : ((T ++ far.map fun u => (u, u)).all fun q => goalB rows p (F.nxt p.1 q.1, F.nxt p.2 q.2) (F.chg p.1 q.1 - F.chg p.2 q.2))
  · rw [hA] at key
    have key : o'' = some (.rt (.bool false) []) := key
    rw [key]
    simp
  · rw [hA] at key
    obtain ⟨Γ', h1, _⟩ : ∃ Γ', o'' = some (Out.nx Γ' []) ∧ _ := key
    rw [h1]
    simp
end K26.Q
namespace K26.Q
open PySem L2
@[simp] theorem eqv_pr {p q : St × St} : cmpD .Eq (prS p) (prS q) = some (decide (p = q)) := by
  obtain ⟨⟨a, b, c⟩, d, e, f⟩ := p
  obtain ⟨⟨a', b', c'⟩, d', e', f'⟩ := q
  simp only [cmpD]
  rw [if_pos (by simp [prS, stD, PyData.plain, PyData.plainAll, PyData.depth, PyData.depthAll, DL])]
  simp [prS, stD, PyData.eqv, PyData.eqvAll]
  by_cases h1 : a = a' <;> by_cases h2 : b = b' <;> by_cases h3 : c = c' <;> by_cases h4 : d = d' <;> by_cases h5 : e = e' <;> by_cases h6 : f = f' <;> simp [h1, h2, h3, h4, h5, h6]
theorem ints_plain (us : List Int) : PyData.plainAll (us.map .int) = true := by
  induction us with
  | nil => rfl
  | cons u us ih => simp [PyData.plainAll, PyData.plain, ih]
theorem ints_dep (us : List Int) : PyData.depthAll (us.map .int) = 0 := by
  induction us with
  | nil => rfl
  | cons u us ih => simp [PyData.depthAll, PyData.depth, ih]
theorem tis_plain (us : List (Int × Int)) : PyData.plainAll (us.map tiD) = true := by
  induction us with
  | nil => rfl
  | cons u us ih => simp [PyData.plainAll, PyData.plain, tiD, ih]
theorem tis_dep (us : List (Int × Int)) : PyData.depthAll (us.map tiD) ≤ 1 := by
  induction us with
  | nil => simp [PyData.depthAll]
  | cons u us ih => simp [PyData.depthAll, PyData.depth, tiD, ih]
theorem ne_nil_ints (us : List Int) : cmpD .NotEq (.tuple (us.map .int)) (.tuple []) = some (!us.isEmpty) := by
  simp only [cmpD]
  rw [if_pos (by simp [PyData.plain, ints_plain, PyData.depth, ints_dep, DL, PyData.plainAll])]
  cases us <;> simp [PyData.eqv, PyData.eqvAll]
theorem eq_nil_ints (us : List Int) : cmpD .Eq (.tuple (us.map .int)) (.tuple []) = some us.isEmpty := by
  simp only [cmpD]
  rw [if_pos (by simp [PyData.plain, ints_plain, PyData.depth, ints_dep, DL, PyData.plainAll])]
  cases us <;> simp [PyData.eqv, PyData.eqvAll]
theorem ne_nil_tis (us : List (Int × Int)) : cmpD .NotEq (.tuple (us.map tiD)) (.tuple []) = some (!us.isEmpty) := by
  have := tis_dep us
  simp only [cmpD]
  rw [if_pos (by simp [PyData.plain, tis_plain, PyData.depth, DL, PyData.plainAll]; omega)]
  cases us <;> simp [PyData.eqv, PyData.eqvAll]
/-- the uses that a datum is -/
theorem usB_of {d : PyData} (h : usB d = true) : ∃ us : List Int, d = .tuple (us.map .int) ∧ ∀ u ∈ us, 0 ≤ u := by
  cases d with
  | tuple xs =>
    have h : xs.all isU = true := h
    induction xs with
    | nil => exact ⟨[], rfl, fun _ h => nomatch h⟩
    | cons x xs ih =>
      rw [List.all_cons, Bool.and_eq_true] at h
      obtain ⟨i, rfl, hi⟩ := isU_of h.1
      obtain ⟨us, e, hu⟩ := ih h.2 h.2
      injection e with e
      exact ⟨i :: us, by rw [e]; rfl, fun u hm => (List.mem_cons.mp hm).elim (fun e => e ▸ hi) (hu u)⟩
  | _ => simp [usB] at h
theorem usB_to {us : List Int} (h : ∀ u ∈ us, 0 ≤ u) : usB (.tuple (us.map .int)) = true := by
  simp only [usB, List.all_map, List.all_eq_true]
  intro u hu
  simp [isU, h u hu]
theorem prB_to {us : List (Int × Int)} (h : ∀ u ∈ us, 0 ≤ u.1 ∧ u.1 ≤ u.2) : prB (.tuple (us.map tiD)) = true := by
  simp only [prB, List.all_map, List.all_eq_true]
  intro u hu
  have := h u hu
  simp [prU, tiD]
  omega
def isNn : PyData → Bool
  | .none => true
  | _ => false
theorem is_any (d : PyData) : isD d none = some (isNn d) := by cases d <;> rfl
theorem boolsD_rep (k : Nat) : boolsD (List.replicate k (.bool true)) = some (List.replicate k true) := by
  induction k with
  | zero => rfl
  | succ k ih => simp [List.replicate_succ, boolsD, ih]
/-! ### the judges -/
section
variable {a b c d e : PyData}
theorem F26_bad (n : Nat) (hs : szL c) (h : (formB a && formB b && usB c && isI d) = false) : Fn (n + 5) 26 [a, b, c, d, e] = some (.bool false) := by
  rw [Fn_run (D := d_accepts_ahead) (n + 4) 26 _ rfl (by decide) rfl rfl rfl]
  cases hA : formB a
  · simp [DefT.run, d_accepts_ahead, t_accepts_ahead, n_accepts_ahead, F7, hA]
  · cases hB : formB b
    · simp [DefT.run, d_accepts_ahead, t_accepts_ahead, n_accepts_ahead, F7, hA, hB]
    · cases hC : usB c
      · simp [DefT.run, d_accepts_ahead, t_accepts_ahead, n_accepts_ahead, F7, hA, hB, F3 (n + 1) c hs, hC]
      · cases hD : isI d
        · simp [DefT.run, d_accepts_ahead, t_accepts_ahead, n_accepts_ahead, F7, hA, hB, F3 (n + 1) c hs, hC, F0, hD]
        · simp [hA, hB, hC, hD] at h
theorem F26 (n : Nat) {F G : Fm} (V : F.V) (W : G.V) {us : List Int} (hu : ∀ u ∈ us, 0 ≤ u) (hl : us.length ≤ 16777216) (am : Int) :
    Fn (n + 5) 26 [F.D, G.D, .tuple (us.map .int), .int am, e] = some (.bool (isNn e && decide ((F.walk us (0, 0, 0)).1 - (G.walk us (0, 0, 0)).1 = am))) := by
  rw [Fn_run (D := d_accepts_ahead) (n + 4) 26 _ rfl (by decide) rfl rfl rfl]
  have hs : szL (.tuple (us.map .int)) := fun xs h => by cases h; simpa using hl
  simp [DefT.run, d_accepts_ahead, t_accepts_ahead, n_accepts_ahead, F7, formB_to V, formB_to W, F3 (n + 1) _ hs, usB_to hu, F0, isI]
  rw [is_any]
  cases isNn e <;> simp [F18 n F V G W us]
theorem F27_bad (n : Nat) (hs : szL c) (hs' : szL d) (h : (formB a && formB b && usB c && usB d) = false) : Fn (n + 5) 27 [a, b, c, d, e] = some (.bool false) := by
  rw [Fn_run (D := d_accepts_loop) (n + 4) 27 _ rfl (by decide) rfl rfl rfl]
  cases hA : formB a
  · simp [DefT.run, d_accepts_loop, t_accepts_loop, n_accepts_loop, F7, hA]
  · cases hB : formB b
    · simp [DefT.run, d_accepts_loop, t_accepts_loop, n_accepts_loop, F7, hA, hB]
    · cases hC : usB c
      · simp [DefT.run, d_accepts_loop, t_accepts_loop, n_accepts_loop, F7, hA, hB, F3 (n + 1) c hs, hC]
      · cases hD : usB d
        · simp [DefT.run, d_accepts_loop, t_accepts_loop, n_accepts_loop, F7, hA, hB, F3 (n + 1) c hs, hC, F3 (n + 1) d hs', hD]
        · simp [hA, hB, hC, hD] at h
theorem F27 (n : Nat) {F G : Fm} (V : F.V) (W : G.V) {us vs : List Int} (hu : ∀ u ∈ us, 0 ≤ u) (hv : ∀ u ∈ vs, 0 ≤ u) (hl : us.length + vs.length ≤ 16777216) :
    Fn (n + 5) 27 [F.D, G.D, .tuple (us.map .int), .tuple (vs.map .int), e] = some (.bool (isNn e && (!vs.isEmpty && (decide (((F.walk (us ++ vs) (0, 0, 0)).2, (G.walk (us ++ vs) (0, 0, 0)).2) = ((F.walk us (0, 0, 0)).2, (G.walk us (0, 0, 0)).2)) &&
      decide ((F.walk us (0, 0, 0)).1 - (G.walk us (0, 0, 0)).1 < (F.walk (us ++ vs) (0, 0, 0)).1 - (G.walk (us ++ vs) (0, 0, 0)).1))))) := by
  rw [Fn_run (D := d_accepts_loop) (n + 4) 27 _ rfl (by decide) rfl rfl rfl]
  have hs : szL (.tuple (us.map .int)) := fun xs h => by cases h; simp; omega
  have hs' : szL (.tuple (vs.map .int)) := fun xs h => by cases h; simp; omega
  have ha : us.map PyData.int ++ vs.map PyData.int = (us ++ vs).map .int := List.map_append.symm
  simp only [DefT.run, d_accepts_loop, t_accepts_loop, n_accepts_loop]
  simp [F7, formB_to V, formB_to W, F3 (n + 1) _ hs, F3 (n + 1) _ hs', usB_to hu, usB_to hv, F18 n F V G W us, hl, -List.map_append]
  rw [ha]
  simp [F18 n F V G W (us ++ vs), -List.map_append, ne_nil_ints]
  rw [is_any]
  cases isNn e
  · simp
  · cases hve : vs.isEmpty
    · by_cases q : (F.walk (us ++ vs) (0, 0, 0)).2 = (F.walk us (0, 0, 0)).2 <;> by_cases q' : (G.walk (us ++ vs) (0, 0, 0)).2 = (G.walk us (0, 0, 0)).2 <;> simp [q, q', ne_nil_ints, hve]
    · simp [ne_nil_ints, hve]
theorem F28_bad (n : Nat) (hs : szL c) (h : (formB a && formB b && usB c && isU d) = false) : Fn (n + 5) 28 [a, b, c, d, e] = some (.bool false) := by
  rw [Fn_run (D := d_accepts_ray) (n + 4) 28 _ rfl (by decide) rfl rfl rfl]
  cases h0 : formB a
  · simp [DefT.run, d_accepts_ray, t_accepts_ray, n_accepts_ray, F7, h0]
  · cases h1 : formB b
    · simp [DefT.run, d_accepts_ray, t_accepts_ray, n_accepts_ray, F7, h0, F7, h1]
    · cases h2 : usB c
      · simp [DefT.run, d_accepts_ray, t_accepts_ray, n_accepts_ray, F7, h0, F7, h1, F3 (n + 1) c hs, h2]
      · cases h3 : isU d
        · simp [DefT.run, d_accepts_ray, t_accepts_ray, n_accepts_ray, F7, h0, F7, h1, F3 (n + 1) c hs, h2, F2, h3]
        · simp [h0, h1, h2, h3] at h

@[simp] theorem lrg_2 {i j : Int} : lrgD [.int i, .int j] = if j ≤ i then some [] else rgD [.int i, .int j] := rfl
def rng2 (i j : Int) : List Int := (List.range (j - i).toNat).map fun k : Nat => i + k
theorem rgD_2 {i j : Int} (h : -(2 ^ 62) ≤ i ∧ i < 2 ^ 62 ∧ -(2 ^ 62) ≤ j ∧ j < 2 ^ 62 ∧ j - i ≤ 16777216) : rgD [.int i, .int j] = some ((rng2 i j).map .int) := by
  show (if _ then _ else _) = _
  rw [if_pos h]
  unfold rng2
  rw [List.map_map]
  rfl
theorem rng2_mem {i j x : Int} (h : x ∈ rng2 i j) : i ≤ x := by
  unfold rng2 at h
  obtain ⟨k, _, rfl⟩ := List.mem_map.mp h
  omega
theorem F28 (n : Nat) {F G : Fm} (V : F.V) (W : G.V) {us : List Int} (hu : ∀ u ∈ us, 0 ≤ u) (hl : us.length ≤ 16777216) (fr : Int) (hf : 0 ≤ fr) (he : isNn e = true → ∀ u, fr ≤ u → 0 < growth F (F.walk us (0, 0, 0)).2 G (G.walk us (0, 0, 0)).2 u) :
    Fn (n + 5) 28 [F.D, G.D, .tuple (us.map .int), .int fr, e] = some (.bool (isNn e)) := by
  rw [Fn_run (D := d_accepts_ray) (n + 4) 28 _ rfl (by decide) rfl rfl rfl]
  have hs : szL (.tuple (us.map .int)) := fun xs h => by cases h; simpa using hl
  have s1 := walk_S V us (zero_S V)
  have s2 := walk_S W us (zero_S W)
  have h15 := F15 (n + 1) F V _ s1 G W _ s2
  have q1 := far_le V
  have q2 := far_le W
  obtain ⟨T, hT⟩ : ∃ T, turns F (F.walk us (0, 0, 0)).2 G (G.walk us (0, 0, 0)).2 = max F.far G.far :: T := ⟨_, rfl⟩
  have hlen := turns_len F (F.walk us (0, 0, 0)).2 G (G.walk us (0, 0, 0)).2
  rw [hT] at hlen h15
  simp only [List.length_cons] at hlen
  have hr : ∃ R : List Int, lrgD [.int fr, .int (max F.far G.far)] = some (R.map .int) ∧ R.length ≤ 27 ∧ ∀ u ∈ R, fr ≤ u := by
    by_cases q : max F.far G.far ≤ fr
    · exact ⟨[], by simp [q], by simp, fun _ h => nomatch h⟩
    · refine ⟨rng2 fr (max F.far G.far), ?_, ?_, fun u hu => rng2_mem hu⟩
      · rw [lrg_2, if_neg q, rgD_2 (by omega)]
      · simp [rng2]; omega
  obtain ⟨R, hR, hRl, hRm⟩ := hr
  simp only [DefT.run, d_accepts_ray, t_accepts_ray, n_accepts_ray]
  simp [F7, formB_to V, formB_to W, F3 (n + 1) _ hs, usB_to hu, F2, isU, hf, F18 n F V G W us, h15, hR, -lrg_2]
  generalize hF : lcRun _ _ _ _ = o
  have hF : lcRun _ ((max F.far G.far :: T).map .int) _ _ = o := hF
  rw [lc_fil (p := geB fr) hF (fun x hx => by
    obtain ⟨i, _, rfl⟩ := List.mem_map.mp hx
    simp [lcS, geB]
    by_cases q : fr ≤ i <;> simp [q]) (by simp; omega)]
  rw [fil_int _ (fun u => decide (fr ≤ u)) _ (fun n => rfl)]
  have h4 := List.length_filter_le (fun u => decide (fr ≤ u)) (max F.far G.far :: T)
  simp only [List.length_cons] at h4
  have hMm : ∀ u ∈ (max F.far G.far :: T).filter (fun u => decide (fr ≤ u)), fr ≤ u := fun u hu => of_decide_eq_true (List.mem_filter.mp hu).2
  generalize (max F.far G.far :: T).filter (fun u => decide (fr ≤ u)) = M at h4 hMm
  have h5 : R.length + M.length ≤ 16777216 := by omega
  have h6 : R.length + M.length ≤ 16777215 := by omega
  simp [h5, h6]
  rw [is_any]
  cases hN : isNn e
  · simp
  · simp
    generalize hG : lcRun _ _ _ _ = o'
    have hm : ∀ x ∈ R.map PyData.int ++ (M.map PyData.int ++ [.int fr]), ∃ i, x = .int i ∧ fr ≤ i := by
      intro x hx
      rcases List.mem_append.mp hx with hx | hx
      · obtain ⟨i, hi, rfl⟩ := List.mem_map.mp hx
        exact ⟨i, rfl, hRm i hi⟩
      · rcases List.mem_append.mp hx with hx | hx
        · obtain ⟨i, hi, rfl⟩ := List.mem_map.mp hx
          exact ⟨i, rfl, hMm i hi⟩
        · rw [List.mem_singleton] at hx
          exact ⟨fr, hx, Int.le_refl _⟩
    rw [lc_map (h := fun x => .bool true) hG (fun x hx => by
      obtain ⟨i, rfl, hi⟩ := hm x hx
      have g := he hN i hi
      have h17 := F17 n F V _ s1 G W _ s2 i
      simp [lcS, h17, g]) (by simp; omega)]
    clear hG hm
    generalize (R.map PyData.int ++ (M.map PyData.int ++ [PyData.int fr])) = L
    simp [boolsD_rep]
end
end K26.Q
namespace K26.Q
open PySem L2
section
variable {a b c d e : PyData}
theorem F29_bad (n : Nat)  (h : (formB a && formB b && isI d) = false) : Fn (n + 5) 29 [a, b, c, d, e] = some (.bool false) := by
  rw [Fn_run (D := d_accepts_never) (n + 4) 29 _ rfl (by decide) rfl rfl rfl]
  cases h0 : formB a
  · simp [DefT.run, d_accepts_never, t_accepts_never, n_accepts_never, F7, h0]
  · cases h1 : formB b
    · simp [DefT.run, d_accepts_never, t_accepts_never, n_accepts_never, F7, h0, F7, h1]
    · cases h2 : isI d
      · simp [DefT.run, d_accepts_never, t_accepts_never, n_accepts_never, F7, h0, F7, h1, F0, h2]
      · simp [h0, h1, h2] at h

theorem F29_tab (n : Nat) {F G : Fm} (V : F.V) (W : G.V) (am : Int) (h : tabB F G e = false) : Fn (n + 5) 29 [F.D, G.D, c, .int am, e] = some (.bool false) := by
  rw [Fn_run (D := d_accepts_never) (n + 4) 29 _ rfl (by decide) rfl rfl rfl]
  simp [DefT.run, d_accepts_never, t_accepts_never, n_accepts_never, F7, formB_to V, formB_to W, F0, isI, F21_bad n F G (.int am) e h]
/-- what shows a table of numbers -/
structure Tbl (F G : Fm) (rows : List Rw) (am : Int) : Prop where
  S : ∀ r ∈ rows, F.S r.1.1 ∧ G.S r.1.2
  nd : (rows.map (·.1)).Nodup
  asc : ascB (rows.map rwD) = true
  st : ∃ v, rows.lookup ((0, 0, 0), (0, 0, 0)) = some v ∧ 0 ≤ v
  mx : ∃ m, maxI (rows.map (·.2)) = some m ∧ m ≤ am
  len : rows.length ≤ 1000
theorem Tbl.known {F G : Fm} {rows : List Rw} {am : Int} (T : Tbl F G rows am) (n : Nat) (V : F.V) (W : G.V) : Fn (n + 4) 21 [F.D, G.D, .int am, .tuple (rows.map rwD)] = some (.dict (encK rows)) := by
  obtain ⟨v, h1, h2⟩ := T.st
  obtain ⟨m, h3, h4⟩ := T.mx
  have := T.len
  exact F21 n F V G W am rows T.S T.nd T.asc v m h1 h2 h3 h4 (by omega)
@[simp] theorem isNn_n : isNn .none = true := rfl
@[simp] theorem isNn_d {kvs : List (PyData × PyData)} : isNn (.dict kvs) = false := rfl
theorem isNn_f {d : PyData} (h : isNn d = false) : isD d none = some false := by rw [is_any, h]
theorem F29_mo (n : Nat) {F G : Fm} (V : F.V) (W : G.V) {am : Int} {rows : List Rw} (T : Tbl F G rows am) (h1 : isNn c = false) (h2 : isU c = false) : Fn (n + 5) 29 [F.D, G.D, c, .int am, .tuple (rows.map rwD)] = some (.bool false) := by
  rw [Fn_run (D := d_accepts_never) (n + 4) 29 _ rfl (by decide) rfl rfl rfl]
  simp [DefT.run, d_accepts_never, t_accepts_never, n_accepts_never, F7, formB_to V, formB_to W, F0, isI, T.known n V W, isNn_f h1, F2, h2]
theorem lookup_mem {rows : List Rw} {r : Rw} (h : r ∈ rows) : ∃ v, rows.lookup r.1 = some v := by
  induction rows with
  | nil => cases h
  | cons q rows ih =>
    obtain ⟨k, w⟩ := q
    by_cases e : r.1 = k
    · exact ⟨w, by simp [List.lookup, e]⟩
    · have e' : (r.1 == k) = false := by simpa using e
      rcases List.mem_cons.mp h with h | h
      · exact absurd (by rw [h]) e
      · obtain ⟨v, hv⟩ := ih h
        exact ⟨v, by simp [List.lookup, e', hv]⟩
theorem isU_opt {mo : Option Int} (hm : ∀ m, mo = some m → 0 ≤ m) : isNn (optI mo) = true ∨ (isNn (optI mo) = false ∧ isU (optI mo) = true) := by
  cases mo with
  | none => exact .inl rfl
  | some m => exact .inr ⟨rfl, by simp [isU, hm m rfl]⟩
theorem F29 (n : Nat) {F G : Fm} (V : F.V) (W : G.V) {am : Int} {rows : List Rw} (T : Tbl F G rows am) (mo : Option Int) (hm : ∀ m, mo = some m → 0 ≤ m) (hb : ∀ r ∈ rows, neverB F G mo rows r.1 = true) :
    Fn (n + 6) 29 [F.D, G.D, optI mo, .int am, .tuple (rows.map rwD)] = some (.bool true) := by
  rw [Fn_run (D := d_accepts_never) (n + 5) 29 _ rfl (by decide) rfl rfl rfl]
  simp [DefT.run, d_accepts_never, t_accepts_never, n_accepts_never, F7, formB_to V, formB_to W, F0, isI, T.known (n + 1) V W]
  have fin : ∀ {o}, lcRun (lcS (cfN (n + 5)) [some (.d F.D), some (.d G.D), some (.d (optI mo)), some (.d (.int am)), some (.d (.tuple (rows.map rwD))), some (.d (.dict (encK rows))), none] (.call 23 (.cons (.var 0) (.cons (.var 1) (.cons (.var 2) (.cons (.var 5) (.cons (.var 6) .nil)))))) (.nm 6) .no [6]) ((encK rows).map (·.1)) [] [] = o → o = some (List.replicate rows.length (.bool true), []) := by
    intro o hF
    have := T.len
    refine (lc_map (h := fun _ => .bool true) hF (fun x hx => ?_) (by simp [encK]; omega)).trans (by rw [List.map_const']; simp [encK])
    obtain ⟨r, hr, rfl⟩ : ∃ r ∈ rows, x = prS r.1 := by
      simp only [encK, List.map_map] at hx
      obtain ⟨r, hr, rfl⟩ := List.mem_map.mp hx
      exact ⟨r, hr, rfl⟩
    obtain ⟨v, hv⟩ := lookup_mem hr
    simp [lcS, F23 n V W mo hm rows r.1 (T.S r hr) hv, hb r hr]
  rcases isU_opt hm with h | ⟨h, h'⟩
  · simp [is_any, h]
    generalize hF : lcRun _ _ _ _ = o
    rw [fin hF]
    simp [boolsD_rep]
  · simp [is_any, h, F2, h']
    generalize hF : lcRun _ _ _ _ = o
    rw [fin hF]
    simp [boolsD_rep]
theorem F34_bad (n : Nat)  (h : (formB a && isI d) = false) : Fn (n + 5) 34 [a, b, d, e] = some (.bool false) := by
  rw [Fn_run (D := d_accepts_thrifty) (n + 4) 34 _ rfl (by decide) rfl rfl rfl]
  cases h0 : formB a
  · simp [DefT.run, d_accepts_thrifty, t_accepts_thrifty, n_accepts_thrifty, F7, h0]
  · cases h1 : isI d
    · simp [DefT.run, d_accepts_thrifty, t_accepts_thrifty, n_accepts_thrifty, F7, h0, F0, h1]
    · simp [h0, h1] at h

theorem F34_mo (n : Nat) (hA : formB a = true) (hD : isI d = true) (h1 : isNn b = false) (h2 : isU b = false) : Fn (n + 5) 34 [a, b, d, e] = some (.bool false) := by
  rw [Fn_run (D := d_accepts_thrifty) (n + 4) 34 _ rfl (by decide) rfl rfl rfl]
  simp [DefT.run, d_accepts_thrifty, t_accepts_thrifty, n_accepts_thrifty, F7, hA, F0, hD, isNn_f h1, F2, h2]
theorem F34_tab (n : Nat) {F : Fm} (V : F.V) (am : Int) (mo : Option Int) (hm : ∀ m, mo = some m → 0 ≤ m) (h : tabB F F e = false) : Fn (n + 5) 34 [F.D, optI mo, .int am, e] = some (.bool false) := by
  rw [Fn_run (D := d_accepts_thrifty) (n + 4) 34 _ rfl (by decide) rfl rfl rfl]
  rcases isU_opt hm with q | ⟨q, q'⟩
  · simp [DefT.run, d_accepts_thrifty, t_accepts_thrifty, n_accepts_thrifty, F7, formB_to V, F0, isI, F21_bad n F F (.int am) e h, is_any, q]
  · simp [DefT.run, d_accepts_thrifty, t_accepts_thrifty, n_accepts_thrifty, F7, formB_to V, F0, isI, F21_bad n F F (.int am) e h, is_any, q, F2, q']
theorem F34 (n : Nat) {F : Fm} (V : F.V) {am : Int} {rows : List Rw} (T : Tbl F F rows am) (mo : Option Int) (hm : ∀ m, mo = some m → 0 ≤ m) (hb : ∀ r ∈ rows, thriftB F mo rows r.1 = true) :
    Fn (n + 6) 34 [F.D, optI mo, .int am, .tuple (rows.map rwD)] = some (.bool true) := by
  rw [Fn_run (D := d_accepts_thrifty) (n + 5) 34 _ rfl (by decide) rfl rfl rfl]
  have fin : ∀ {o}, lcRun (lcS (cfN (n + 5)) [some (.d F.D), some (.d (optI mo)), some (.d (.int am)), some (.d (.tuple (rows.map rwD))), some (.d (.dict (encK rows))), none] (.call 24 (.cons (.var 0) (.cons (.var 1) (.cons (.var 4) (.cons (.var 5) .nil))))) (.nm 5) .no [5]) ((encK rows).map (·.1)) [] [] = o → o = some (List.replicate rows.length (.bool true), []) := by
    intro o hF
    have := T.len
    refine (lc_map (h := fun _ => .bool true) hF (fun x hx => ?_) (by simp [encK]; omega)).trans (by rw [List.map_const']; simp [encK])
    obtain ⟨r, hr, rfl⟩ : ∃ r ∈ rows, x = prS r.1 := by
      simp only [encK, List.map_map] at hx
      obtain ⟨r, hr, rfl⟩ := List.mem_map.mp hx
      exact ⟨r, hr, rfl⟩
    obtain ⟨v, hv⟩ := lookup_mem hr
    simp [lcS, F24 n V mo hm rows r.1 (T.S r hr) hv, hb r hr]
  rcases isU_opt hm with h | ⟨h, h'⟩
  · simp [DefT.run, d_accepts_thrifty, t_accepts_thrifty, n_accepts_thrifty, F7, formB_to V, F0, isI, T.known (n + 1) V V, is_any, h]
    generalize hF : lcRun _ _ _ _ = o
    rw [fin hF]
    simp [boolsD_rep]
  · simp [DefT.run, d_accepts_thrifty, t_accepts_thrifty, n_accepts_thrifty, F7, formB_to V, F0, isI, T.known (n + 1) V V, is_any, h, F2, h']
    generalize hF : lcRun _ _ _ _ = o
    rw [fin hF]
    simp [boolsD_rep]
end
end K26.Q
namespace K26.Q
open PySem L2
def isTup : PyData → Bool
  | .tuple _ => true
  | _ => false
theorem isTup_isa (d : PyData) : isaD d .tuple = isTup d := by cases d <;> rfl
section
variable {a b c d e : PyData}
theorem F30_bad (n : Nat) (hs : szL c) (h : (formB a && formB b && usB c) = false) : Fn (n + 5) 30 [a, b, c, e] = some (.bool false) := by
  rw [Fn_run (D := d_accepts_apart) (n + 4) 30 _ rfl (by decide) rfl rfl rfl]
  cases h0 : formB a
  · simp [DefT.run, d_accepts_apart, t_accepts_apart, n_accepts_apart, F7, h0]
  · cases h1 : formB b
    · simp [DefT.run, d_accepts_apart, t_accepts_apart, n_accepts_apart, F7, h0, F7, h1]
    · cases h2 : usB c
      · simp [DefT.run, d_accepts_apart, t_accepts_apart, n_accepts_apart, F7, h0, F7, h1, F3 (n + 1) c hs, h2]
      · simp [h0, h1, h2] at h

theorem F30_c (n : Nat) {F G : Fm} (V : F.V) (W : G.V) {us : List Int} (hu : ∀ u ∈ us, 0 ≤ u) (hl : us.length ≤ 16777216) (h : isNn e = false) : Fn (n + 5) 30 [F.D, G.D, .tuple (us.map .int), e] = some (.bool false) := by
  rw [Fn_run (D := d_accepts_apart) (n + 4) 30 _ rfl (by decide) rfl rfl rfl]
  have hs : szL (.tuple (us.map .int)) := fun xs h => by cases h; simpa using hl
  simp only [DefT.run, d_accepts_apart, t_accepts_apart, n_accepts_apart]
  simp [F7, formB_to V, formB_to W, F3 (n + 1) _ hs, usB_to hu, eq_nil_ints]
  cases us.isEmpty <;> simp [is_any, h]
theorem F30 (n : Nat) {F G : Fm} (V : F.V) (W : G.V) {us : List Int} (l : Int) (hu : ∀ u ∈ us ++ [l], 0 ≤ u) (hl : us.length + 1 ≤ 16777216) :
    Fn (n + 5) 30 [F.D, G.D, .tuple ((us ++ [l]).map .int), .none] = some (.bool (!decide (gap F (F.walk us (0, 0, 0)).2 G (G.walk us (0, 0, 0)).2 l = 0))) := by
  rw [Fn_run (D := d_accepts_apart) (n + 4) 30 _ rfl (by decide) rfl rfl rfl]
  have hs : szL (.tuple ((us ++ [l]).map .int)) := fun xs h => by cases h; simpa using hl
  have s1 := walk_S V us (zero_S V)
  have s2 := walk_S W us (zero_S W)
  have hcut : cutD ((us ++ [l]).map PyData.int) none (some (-1)) = us.map .int := by
    rw [cut_tm1 (by simp), ← List.map_dropLast]
    simp
  have hemp : (us ++ [l]).isEmpty = false := by cases us <;> rfl
  simp only [DefT.run, d_accepts_apart, t_accepts_apart, n_accepts_apart]
  simp [F7, formB_to V, formB_to W, F3 (n + 1) _ hs, usB_to hu, eq_nil_ints, hemp, hcut, F18 n F V G W us, F16 (n + 1) F V _ s1 G W _ s2, -List.map_append]
def pairB (F G : Fm) : PyData → Bool
  | .tuple [a, b] => stB F a && stB G b
  | _ => false
theorem F31_bad (n : Nat)  (h : (formB a && formB b && isTup c) = false) : Fn (n + 5) 31 [a, b, c] = some (.bool false) := by
  rw [Fn_run (D := d_accepts_alike) (n + 4) 31 _ rfl (by decide) rfl rfl rfl]
  cases h0 : formB a
  · simp [DefT.run, d_accepts_alike, t_accepts_alike, n_accepts_alike, F7, h0]
  · cases h1 : formB b
    · simp [DefT.run, d_accepts_alike, t_accepts_alike, n_accepts_alike, F7, h0, F7, h1]
    · cases h2 : isTup c
      · simp [DefT.run, d_accepts_alike, t_accepts_alike, n_accepts_alike, F7, h0, F7, h1, isTup_isa, h2]
      · simp [h0, h1, h2] at h

theorem F31_tab (n : Nat) {F G : Fm} (V : F.V) (W : G.V) (xs : List PyData) (h : xs.all (pairB F G) = false) : Fn (n + 5) 31 [F.D, G.D, .tuple xs] = some (.bool false) := by
  rw [Fn_run (D := d_accepts_alike) (n + 4) 31 _ rfl (by decide) rfl rfl rfl]
  simp only [DefT.run, d_accepts_alike, t_accepts_alike, n_accepts_alike]
  simp [F7, formB_to V, formB_to W]
  generalize hF : forRun _ _ _ _ = o
  have key := for_opt (R := fun (b : Unit) Γ => ∃ j, Γ = [some (.d F.D), some (.d G.D), some (.d (.tuple xs)), j]) (step := fun _ x => if pairB F G x then some () else none) (bad := .bool false) () hF
  replace key := key (by
    rintro b Γ x hx ⟨j, rfl⟩
    cases x with
    | tuple ys =>
      by_cases hlen : ys.length = 2
      · obtain ⟨a, b, rfl⟩ : ∃ a b, ys = [a, b] := by
          match ys, hlen with
          | [a, b], _ => exact ⟨a, b, rfl⟩
        have e : pairB F G (.tuple [a, b]) = (stB F a && stB G b) := rfl
        rw [e]
        cases hA : stB F a
        · simp [forS, F8, hA]
        · cases hB : stB G b <;> simp [forS, F8, hA, hB]
      · have hne : ¬ ((ys.length : Int) = 2) := by omega
        have hf : pairB F G (.tuple ys) = false := by
          unfold pairB
          split
          · rename_i h
            cases h
            exact absurd rfl hlen
          · rfl
        rw [hf]
        simp [forS, hne]
    | _ => simp [forS, pairB]) ⟨none, rfl⟩
  rw [fold_unit, h] at key
  have key : o = some (.rt (.bool false) []) := key
  rw [key]
  simp
theorem F32_bad (n : Nat) (hb : szL b) (hb' : ∀ xs, b = .tuple xs → ∀ x ∈ xs, szL x) (h : (formB a && prB b && isI c) = false) : Fn (n + 5) 32 [a, b, c, e] = some (.bool false) := by
  rw [Fn_run (D := d_accepts_lost) (n + 4) 32 _ rfl (by decide) rfl rfl rfl]
  cases h0 : formB a
  · simp [DefT.run, d_accepts_lost, t_accepts_lost, n_accepts_lost, F7, h0]
  · cases h1 : prB b
    · simp [DefT.run, d_accepts_lost, t_accepts_lost, n_accepts_lost, F7, h0, F4 n b hb hb', h1]
    · cases h2 : isI c
      · simp [DefT.run, d_accepts_lost, t_accepts_lost, n_accepts_lost, F7, h0, F4 n b hb hb', h1, F0, h2]
      · simp [h0, h1, h2] at h

theorem sz_tis {ps : List (Int × Int)} (hl : ps.length ≤ 16777216) : szL (.tuple (ps.map tiD)) := fun xs h => by cases h; simpa using hl
theorem sz_tis' {ps : List (Int × Int)} : ∀ xs, PyData.tuple (ps.map tiD) = .tuple xs → ∀ x ∈ xs, szL x := fun xs h x hx => by
  cases h
  obtain ⟨p, _, rfl⟩ := List.mem_map.mp hx
  intro ys h
  cases h
  simp
theorem F32 (n : Nat) {F : Fm} (V : F.V) {ps : List (Int × Int)} (hp : ∀ u ∈ ps, 0 ≤ u.1 ∧ u.1 ≤ u.2) (hl : ps.length ≤ 16777216) (am : Int) :
    Fn (n + 5) 32 [F.D, .tuple (ps.map tiD), .int am, e] = some (.bool (isNn e && decide ((F.walk (ps.map (·.1)) (0, 0, 0)).1 - (F.walk (ps.map (·.2)) (0, 0, 0)).1 = am))) := by
  rw [Fn_run (D := d_accepts_lost) (n + 4) 32 _ rfl (by decide) rfl rfl rfl]
  simp [DefT.run, d_accepts_lost, t_accepts_lost, n_accepts_lost, F7, formB_to V, F4 n _ (sz_tis hl) sz_tis', prB_to hp, F0, isI]
  rw [is_any]
  cases isNn e <;> simp [F19 n F V ps hl]
theorem F33_bad (n : Nat) (hb : szL b) (hb' : ∀ xs, b = .tuple xs → ∀ x ∈ xs, szL x) (hc : szL c) (hc' : ∀ xs, c = .tuple xs → ∀ x ∈ xs, szL x) (h : (formB a && prB b && prB c) = false) : Fn (n + 5) 33 [a, b, c, e] = some (.bool false) := by
  rw [Fn_run (D := d_accepts_losing) (n + 4) 33 _ rfl (by decide) rfl rfl rfl]
  cases h0 : formB a
  · simp [DefT.run, d_accepts_losing, t_accepts_losing, n_accepts_losing, F7, h0]
  · cases h1 : prB b
    · simp [DefT.run, d_accepts_losing, t_accepts_losing, n_accepts_losing, F7, h0, F4 n b hb hb', h1]
    · cases h2 : prB c
      · simp [DefT.run, d_accepts_losing, t_accepts_losing, n_accepts_losing, F7, h0, F4 n b hb hb', h1, F4 n c hc hc', h2]
      · simp [h0, h1, h2] at h

theorem F33_c (n : Nat) {F : Fm} (V : F.V) {ps qs : List (Int × Int)} (hp : ∀ u ∈ ps, 0 ≤ u.1 ∧ u.1 ≤ u.2) (hq : ∀ u ∈ qs, 0 ≤ u.1 ∧ u.1 ≤ u.2) (hl : ps.length + qs.length ≤ 16777216) (h : isNn e = false) :
    Fn (n + 5) 33 [F.D, .tuple (ps.map tiD), .tuple (qs.map tiD), e] = some (.bool false) := by
  rw [Fn_run (D := d_accepts_losing) (n + 4) 33 _ rfl (by decide) rfl rfl rfl]
  have ha : ps.map tiD ++ qs.map tiD = (ps ++ qs).map tiD := List.map_append.symm
  have hl1 : ps.length ≤ 16777216 := by omega
  have hl2 : qs.length ≤ 16777216 := by omega
  simp only [DefT.run, d_accepts_losing, t_accepts_losing, n_accepts_losing]
  simp [F7, formB_to V, F4 n _ (sz_tis hl1) sz_tis', F4 n _ (sz_tis hl2) sz_tis', prB_to hp, prB_to hq, F19 n F V ps hl1, hl, -List.map_append]
  rw [ha]
  simp [F19 n F V (ps ++ qs) (by simpa using hl), -List.map_append]
  rw [is_any, h]
  simp
def plansB : PyData → Bool
  | .tuple xs => decide (1 ≤ xs.length) && decide (xs.length ≤ 4) && xs.all formB
  | _ => false
theorem F37_bad (n : Nat) (hs : szL b) (hs' : szL d) (h : (plansB a && (usB b && isU c && usB d && isTup e)) = false) : Fn (n + 5) 37 [a, b, c, d, e] = some (.bool false) := by
  rw [Fn_run (D := d_accepts_cheapest) (n + 4) 37 _ rfl (by decide) rfl rfl rfl]
  simp only [DefT.run, d_accepts_cheapest, t_accepts_cheapest, n_accepts_cheapest]
  cases a with
  | tuple xs =>
    by_cases h1 : 1 ≤ xs.length
    · have h1' : (1 : Int) ≤ xs.length := by omega
      by_cases h2 : xs.length ≤ 4
      · have h2' : (xs.length : Int) ≤ 4 := by omega
        simp [h1', h2']
        generalize hF : lcRun _ _ _ _ = o
        rw [lc_map (h := fun x => .bool (formB x)) hF (fun x hx => by simp [lcS, F7]) (by omega)]
        simp [List.all_map]
        cases hA : xs.all formB
        · simp
        · have hp : plansB (.tuple xs) = true := by simp [plansB, h1, h2, hA]
          rw [hp, Bool.true_and] at h
          cases hB : usB b
          · simp [F3 (n + 1) b hs, hB]
          · cases hC : isU c
            · simp [F3 (n + 1) b hs, hB, F2, hC]
            · cases hD : usB d
              · simp [F3 (n + 1) b hs, hB, F2, hC, F3 (n + 1) d hs', hD]
              · cases hE : isTup e
                · simp [F3 (n + 1) b hs, hB, F2, hC, F3 (n + 1) d hs', hD, isTup_isa, hE]
                · simp [hB, hC, hD, hE] at h
      · have h2' : ¬ (xs.length : Int) ≤ 4 := by omega
        simp [h1', h2']
    · have h1' : ¬ (1 : Int) ≤ xs.length := by omega
      simp [h1']
  | _ => simp
def numsB (k : Nat) : PyData → Bool
  | .tuple ys => decide (ys.length = k) && ys.all isI
  | _ => false
theorem F37_tab (n : Nat) (Fs : List Fm) (hV : ∀ F ∈ Fs, F.V) (h1 : 1 ≤ Fs.length) (h2 : Fs.length ≤ 4) {us rs : List Int} (hu : ∀ u ∈ us, 0 ≤ u) (hul : us.length ≤ 100) (hr : ∀ u ∈ rs, 0 ≤ u) (hrl : rs.length ≤ 100) (ch : Int) (hch : 0 ≤ ch) (xs : List PyData)
    (h : (decide (us.length = rs.length) && decide (rs.length = xs.length) && rs.all (fun i => decide (i < Fs.length)) && xs.all (numsB Fs.length)) = false) :
    Fn (n + 5) 37 [.tuple (Fs.map Fm.D), .tuple (us.map .int), .int ch, .tuple (rs.map .int), .tuple xs] = some (.bool false) := by
  rw [Fn_run (D := d_accepts_cheapest) (n + 4) 37 _ rfl (by decide) rfl rfl rfl]
  simp only [DefT.run, d_accepts_cheapest, t_accepts_cheapest, n_accepts_cheapest]
  have h1' : (1 : Int) ≤ Fs.length := by omega
  have h2' : (Fs.length : Int) ≤ 4 := by omega
  have hs : szL (.tuple (us.map .int)) := fun xs h => by cases h; simp; omega
  have hs' : szL (.tuple (rs.map .int)) := fun xs h => by cases h; simp; omega
  simp [h1', h2']
  generalize hF : lcRun _ _ _ _ = o
  rw [lc_map (h := fun x => .bool (formB x)) hF (fun x hx => by simp [lcS, F7]) (by simp; omega)]
  have hall : (Fs.map Fm.D).all formB = true := by
    rw [List.all_map, List.all_eq_true]
    intro F hF
    exact formB_to (hV F hF)
  have bm := boolsD_map formB (Fs.map Fm.D)
  simp [bm, List.all_map, -List.map_map]
  rw [List.all_map] at hall
  simp only [Function.comp_def] at hall ⊢
  simp [hall, F3 (n + 1) _ hs, F3 (n + 1) _ hs', usB_to hu, usB_to hr, F2, isU, hch]
  by_cases q1 : us.length = rs.length
  · by_cases q2 : rs.length = xs.length
    · have q1' : (us.length : Int) = rs.length := by omega
      have q2' : (rs.length : Int) = xs.length := by omega
      simp [q1', q2']
      generalize hG : lcRun _ _ _ _ = o'
      rw [lc_map (h := fun x => .bool (ltB Fs.length x)) hG (fun x hx => by
        obtain ⟨i, _, rfl⟩ := List.mem_map.mp hx
        simp [lcS, ltB]) (by simp; omega)]
      have bm2 := boolsD_map (ltB Fs.length) (rs.map PyData.int)
      have e2 : (rs.map PyData.int).all (ltB Fs.length) = rs.all (fun i => decide (i < Fs.length)) := by rw [List.all_map]; rfl
      simp [bm2, -List.map_map]
      rw [← e2] at h
      cases hA : (rs.map PyData.int).all (ltB Fs.length)
      · rw [List.all_map] at hA
        simp [hA]
      · simp only [hA, q1, q2, decide_true, Bool.true_and, Bool.and_true] at h
        rw [List.all_map] at hA
        simp [hA]
        generalize hL : forRun _ _ _ _ = o''
        have key := for_opt (R := fun (b : Unit) Γ => ∃ a1 a2 a3 a4 j1 j2 j3 j4, Γ = [some (.d (.tuple (Fs.map Fm.D))), a1, a2, a3, a4, j1, j2, j3, j4]) (step := fun _ x => if numsB Fs.length x then some () else none) (bad := .bool false) () hL
        replace key := key (by
          rintro b Γ x hx ⟨a1, a2, a3, a4, j1, j2, j3, j4, rfl⟩
          cases x with
          | tuple ys =>
            by_cases hlen : ys.length = Fs.length
            · have hlen' : (ys.length : Int) = Fs.length := by omega
              obtain ⟨B, hB⟩ : ∃ B, ys.all isI = B := ⟨_, rfl⟩
              have e : numsB Fs.length (.tuple ys) = B := by simp only [numsB, hlen, decide_true, Bool.true_and, hB]
              rw [e]
              simp [forS, hlen']
              generalize hM : lcRun _ _ _ _ = o3
              rw [lc_map (h := fun x => .bool (isI x)) hM (fun x hx => by simp [lcS, F0]) (by omega)]
              simp [List.all_map, hB]
              cases B <;> simp
            · have hlen' : ¬ (ys.length : Int) = Fs.length := by omega
              have e : numsB Fs.length (.tuple ys) = false := by simp [numsB, hlen]
              rw [e]
              simp [forS, hlen']
          | _ => simp [forS, numsB]) ⟨_, _, _, _, _, _, _, _, rfl⟩
        rw [fold_unit, h] at key
        have key : o'' = some (.rt (.bool false) []) := key
        rw [key]
        simp
    · have q1' : (us.length : Int) = rs.length := by omega
      have q2' : ¬ (rs.length : Int) = xs.length := by omega
      simp [q1', q2']
  · have q1' : ¬ (us.length : Int) = rs.length := by omega
    simp [q1']
end
end K26.Q
namespace K26.Q
open PySem L2
@[simp] theorem pow9 : binD .Pow (.int 10) (.int 9) = some (.int 1000000000) := rfl
@[simp] theorem pow6 : binD .Pow (.int 10) (.int 6) = some (.int 1000000) := rfl
@[simp] theorem pow12 : binD .Pow (.int 10) (.int 12) = some (.int 1000000000000) := rfl
@[simp] theorem pow18 : binD .Pow (.int 10) (.int 18) = some (.int 1000000000000000000) := rfl
@[simp] theorem pow20 : binD .Pow (.int 10) (.int 20) = some (.int 100000000000000000000) := rfl
@[simp] theorem pow28 : binD .Pow (.int 10) (.int 28) = some (.int 10000000000000000000000000000) := rfl
/-! ### enumerate -/
def enu : Nat → List PyData → List PyData
  | _, [] => []
  | k, x :: r => .tuple [.int (k : Nat), x] :: enu (k + 1) r
theorem mapIdx_enu (xs : List PyData) : xs.mapIdx (fun i x => PyData.tuple [.int (i : Nat), x]) = enu 0 xs := by
  have gen : ∀ (xs : List PyData) (k : Nat), xs.mapIdx (fun i x => PyData.tuple [.int ((i + k : Nat) : Int), x]) = enu k xs := by
    intro xs
    induction xs with
    | nil => intro k; rfl
    | cons x xs ih =>
      intro k
      rw [List.mapIdx_cons]
      have := ih (k + 1)
      simp only [enu, Nat.zero_add]
      congr 1
      rw [← this]
      congr 1
      funext i x
      rw [show i + 1 + k = i + (k + 1) by omega]
  exact gen xs 0
/-! ### the bill, tier by tier -/
def lw (b : Int) : List (Int × Int) → Int
  | [] => 0
  | [t] => t.2 * max 0 (min b b - t.1)
  | t :: t' :: r => t.2 * max 0 (min t'.1 b - t.1) + lw b (t' :: r)
def chk (b : Int) : Int → List (Int × Int) → Int
  | _, [] => 0
  | p, t :: r => (t.2 - p) * max 0 (b - t.1) + chk b t.2 r
theorem unc_chk (b : Int) : ∀ (ts : List (Int × Int)) (f p : Int), (ts.foldl (uncS b) (f, p)).1 = f + chk b p ts
  | [], f, p => by simp [chk]
  | t :: ts, f, p => by
    rw [List.foldl_cons]
    show (ts.foldl (uncS b) (f + (t.2 - p) * max 0 (b - t.1), t.2)).1 = _
    rw [unc_chk b ts]
    simp only [chk]
    omega
theorem chk_lw (b : Int) : ∀ (t : Int × Int) (ts : List (Int × Int)) (p : Int) (q : Int × Int), tiV q (t :: ts) → chk b p (t :: ts) = lw b (t :: ts) - p * max 0 (b - t.1)
  | t, [], p, q, _ => by
    simp only [chk, lw, Int.min_self, Int.sub_mul]
    omega
  | t, t' :: r, p, q, ⟨_, _, _, _, h⟩ => by
    have ih := chk_lw b t' r t.2 _ h
    have h1 : t.1 + 1 ≤ t'.1 := h.1
    simp only [chk] at ih ⊢
    rw [ih]
    simp only [lw]
    have e : max 0 (min t'.1 b - t.1) = max 0 (b - t.1) - max 0 (b - t'.1) := by omega
    rw [e]
    simp only [Int.sub_mul, Int.mul_sub]
    omega
theorem unc_lw {F : Fm} (V : F.V) (s : St) (u : Int) : F.unc s u = F.fee s + lw (max 0 (u - F.inc - s.1)) F.tiers := by
  unfold Fm.unc
  rw [unc_chk]
  cases h : F.tiers with
  | nil => have := V.t1; rw [h] at this; simp at this
  | cons t ts =>
    have := V.t3
    rw [h] at this
    rw [chk_lw _ t ts 0 _ this]
    simp
theorem bill_loop (n : Nat) {F : Fm} (V : F.V) (s : St) (a2 : Option Sl) (b : Int) : ∀ (suf pre : List (Int × Int)) (f : Int) (j5 j6 j7 : Option Sl), pre ++ suf = F.tiers →
    ∃ k5 k6 k7, forRun (forS (cfN n) (.tp (.cons (.nm 5) (.cons (.nm 6) .nil))) (.cons (.set 7 (.ite (.cmp .Lt (.bin .Add (.var 5) (.int 1)) (.bi .len (.ix (.var 0) (.int 1)))) (.ix (.ix (.ix (.var 0) (.int 1)) (.bin .Add (.var 5) (.int 1))) (.int 0)) (.var 3))) (.cons (.set 4 (.bin .Add (.var 4) (.bin .Mult (.ix (.var 6) (.int 1)) (.bj .mx (.int 0) (.bin .Sub (.bj .mn (.var 7) (.var 3)) (.ix (.var 6) (.int 0))))))) .nil)))
      (enu pre.length (suf.map tiD)) [some (.d F.D), some (.d (stD s)), a2, some (.d (.int b)), some (.d (.int f)), j5, j6, j7] [] = some (.nx [some (.d F.D), some (.d (stD s)), a2, some (.d (.int b)), some (.d (.int (f + lw b suf))), k5, k6, k7] [])
  | [], pre, f, j5, j6, j7, _ => ⟨j5, j6, j7, by simp [enu, forRun, lw]⟩
  | [t], pre, f, j5, j6, j7, hp => by
    have hm : t ∈ F.tiers := by rw [← hp]; simp
    have q := tiV_mem V.t3 t hm
    have hl : F.tiers.length = pre.length + 1 := by rw [← hp]; simp
    have hc : ¬ ((pre.length : Int) + 1 < F.tiers.length) := by omega
    refine ⟨some (.d (.int pre.length)), some (.d (tiD t)), some (.d (.int b)), ?_⟩
    simp [enu, forRun, forS, hc, mulB_l (i := t.2) (by omega) (by omega), lw]
  | t :: t' :: r, pre, f, j5, j6, j7, hp => by
    have hm : t ∈ F.tiers := by rw [← hp]; simp
    have q := tiV_mem V.t3 t hm
    have hl : F.tiers.length = pre.length + (r.length + 2) := by rw [← hp]; simp
    have hc : (pre.length : Int) + 1 < F.tiers.length := by omega
    have hi : atI (F.tiers.map tiD) ((pre.length : Int) + 1) = some (tiD t') := by
      have := atI_nat (F.tiers.map tiD) (pre.length + 1)
      rw [Int.natCast_add] at this
      refine this.trans ?_
      rw [← hp, List.getElem?_map, List.getElem?_append_right (by omega)]
      simp
    obtain ⟨k5, k6, k7, ih⟩ := bill_loop n V s a2 b (t' :: r) (pre ++ [t]) (f + t.2 * max 0 (min t'.1 b - t.1)) (some (.d (.int pre.length))) (some (.d (tiD t))) (some (.d (.int t'.1))) (by simp [← hp])
    refine ⟨k5, k6, k7, ?_⟩
    rw [List.length_append, List.length_singleton] at ih
    rw [List.map_cons]
    unfold enu forRun
    simp [forS, hc, hi, mulB_l (i := t.2) (by omega) (by omega)]
    refine Eq.trans ?_ (ih.trans ?_)
    · rfl
    · simp only [lw]
      rw [Int.add_assoc]
theorem F49 (n : Nat) (F : Fm) (V : F.V) (s : St) (h : F.S s) (u : Int) : Fn (n + 1) 49 [F.D, stD s, .int u] = some (.int (F.chg s u)) := by
  rw [Fn_run (D := d_law_bill) n 49 _ rfl (by decide) rfl rfl rfl]
  simp only [DefT.run, d_law_bill, t_law_bill]
  obtain ⟨k5, k6, k7, loop⟩ := bill_loop n V s (some (.d (.int u))) (max 0 (u - F.inc - s.1)) F.tiers [] (F.fee s) none none none rfl
  rw [← unc_lw V s u] at loop
  simp only [List.length_nil] at loop
  simp [n_law_bill, fee_at h, mapIdx_enu, loop]
  unfold Fm.chg
  cases hm : F.most with
  | none =>
    cases hs : F.strk with
    | none => simp [hs, Int.max_comm]
    | some k =>
      by_cases q : s.2.1 = k.2.1
      · simp [hs, q, Int.max_comm]
      · simp [hs, q, Int.max_comm]
  | some m =>
    by_cases qm : m < max (F.unc s u) F.least
    · have e : min m (max F.least (F.unc s u)) = m := by omega
      cases hs : F.strk with
      | none => simp [hs, hm, qm, e]
      | some k =>
        by_cases q : s.2.1 = k.2.1
        · simp [hs, hm, qm, q, e]
        · simp [hs, hm, qm, q, e]
    · have e : min m (max F.least (F.unc s u)) = max (F.unc s u) F.least := by omega
      cases hs : F.strk with
      | none => simp [hs, hm, qm, e]
      | some k =>
        by_cases q : s.2.1 = k.2.1
        · simp [hs, hm, qm, q, e]
        · simp [hs, hm, qm, q, e]
theorem F50 (n : Nat) (F : Fm) (V : F.V) (s : St) (u : Int) : Fn (n + 1) 50 [F.D, stD s, .int u] = some (stD (F.nxt s u)) := by
  rw [Fn_run (D := d_law_next) n 50 _ rfl (by decide) rfl rfl rfl]
  have hl : 0 < F.fees.length := V.f1
  have hc := V.c
  unfold Fm.nxt Fm.busy
  by_cases q1 : F.inc + s.1 - u < 1
  · have e : min F.car (max 0 (F.inc + s.1 - u)) = 0 := by omega
    rw [e]
    cases hs : F.strk with
    | none => simp [DefT.run, d_law_next, t_law_next, n_law_next, hs, hl, q1, stD]
    | some k =>
      by_cases q : k.1 ≤ u
      · simp [DefT.run, d_law_next, t_law_next, n_law_next, hs, hl, q, q1]; rfl
      · simp [DefT.run, d_law_next, t_law_next, n_law_next, hs, hl, q, q1]; rfl
  · have e : min F.car (max 0 (F.inc + s.1 - u)) = min F.car (F.inc + s.1 - u) := by omega
    rw [e]
    cases hs : F.strk with
    | none => simp [DefT.run, d_law_next, t_law_next, n_law_next, hs, hl, q1]; rfl
    | some k =>
      by_cases q : k.1 ≤ u
      · simp [DefT.run, d_law_next, t_law_next, n_law_next, hs, hl, q, q1]; rfl
      · simp [DefT.run, d_law_next, t_law_next, n_law_next, hs, hl, q, q1]; rfl
theorem F51 (n : Nat) (F : Fm) (V : F.V) (us : List Int) (d : PyData) (hd : seqD d = some (us.map .int)) (s0 : St) (h0 : F.S s0) : Fn (n + 2) 51 [F.D, d, stD s0] = some (.tuple [.int (F.walk us s0).1, stD (F.walk us s0).2]) := by
  rw [Fn_run (D := d_law_walk) (n + 1) 51 _ rfl (by decide) rfl rfl rfl]
  simp [DefT.run, d_law_walk, t_law_walk, n_law_walk, hd]
  generalize hF : forRun _ _ _ _ = o
  have key := for_foldm (R := fun (b : Int × St) Γ => F.S b.2 ∧ ∃ j, Γ = [some (.d F.D), some (.d d), some (.d (stD b.2)), some (.d (.int b.1)), j])
    (step := fun b u => (b.1 + F.chg b.2 u, F.nxt b.2 u)) (0, s0) hF
  replace key := key (by
    rintro b Γ u hu ⟨hb, j, rfl⟩
    simp [forS, F49 n F V b.2 hb u, F50 n F V b.2 u]
    exact nxt_S V hb u) ⟨h0, _, rfl⟩
  obtain ⟨Γ', h1, _, j, rfl⟩ := key
  simp [h1, Fm.walk]
theorem F52 (n : Nat) (F : Fm) (V : F.V) : Fn (n + 1) 52 [F.D] = some (.int F.far) := by
  rw [Fn_run (D := d_law_begin) n 52 _ rfl (by decide) rfl rfl rfl]
  unfold Fm.far
  have hl := last_at V
  cases hs : F.strk with
  | none => simp [DefT.run, d_law_begin, t_law_begin, n_law_begin, hs, hl, -List.getLast?_map]
  | some k => simp [DefT.run, d_law_begin, t_law_begin, n_law_begin, hs, hl, -List.getLast?_map]
theorem F57 (n : Nat) (F : Fm) (V : F.V) (s : St) (h : F.S s) (G : Fm) (W : G.V) (t : St) (h' : G.S t) (u : Int) : Fn (n + 2) 57 [F.D, stD s, G.D, stD t, .int u] = some (.int (gap F s G t u)) := by
  rw [Fn_run (D := d_law_gap) (n + 1) 57 _ rfl (by decide) rfl rfl rfl]
  simp [DefT.run, d_law_gap, t_law_gap, n_law_gap, F49 n, V, W, h, h', gap]
end K26.Q
namespace K26.Q
open PySem L2
/-! ### the first use with a bill -/
def firstG (F : Fm) (s : St) (c : Int) : Nat → Int → Int → Int
  | 0, _, hi => hi
  | k + 1, lo, hi => if 1 < hi - lo then (if c ≤ F.chg s ((lo + hi) / 2) then firstG F s c k lo ((lo + hi) / 2) else firstG F s c k ((lo + hi) / 2) hi) else hi
theorem first_loop (n : Nat) {F : Fm} (V : F.V) {s : St} (h : F.S s) (c : Int) : ∀ (k fuel : Nat) (lo hi : Int) (j : Option Sl), hi - lo ≤ 2 ^ k → k < fuel →
    ∃ lo' j', whlRun (evE (cfN (n + 1)) (.cmp .Gt (.bin .Sub (.var 4) (.var 2)) (.int 1))) (evSs (cfN (n + 1)) (.cons (.set 5 (.bin .FloorDiv (.bin .Add (.var 2) (.var 4)) (.int 2))) (.cons (.ife (.cmp .GtE (.call 49 (.cons (.var 0) (.cons (.var 1) (.cons (.var 5) .nil)))) (.var 3)) (.cons (.set 4 (.var 5)) .nil) (.cons (.set 2 (.var 5)) .nil)) .nil)))
      fuel [some (.d F.D), some (.d (stD s)), some (.d (.int lo)), some (.d (.int c)), some (.d (.int hi)), j] [] = some (.nx [some (.d F.D), some (.d (stD s)), some (.d (.int lo')), some (.d (.int c)), some (.d (.int (firstG F s c fuel lo hi))), j'] [])
  | k, 0, lo, hi, j, _, hk => absurd hk (Nat.not_lt_zero _)
  | k, fuel + 1, lo, hi, j, hd, hk => by
    by_cases h1 : 1 < hi - lo
    · cases k with
      | zero => exfalso; simp at hd; omega
      | succ k =>
        have h2 : hi - lo ≤ 2 * 2 ^ k := by rw [Int.pow_succ] at hd; omega
        have h49 := F49 n F V s h ((lo + hi) / 2)
        generalize hm : (lo + hi) / 2 = m at h49
        unfold whlRun
        by_cases q : c ≤ F.chg s m
        · obtain ⟨lo', j', ih⟩ := first_loop n V h c k fuel lo m (some (.d (.int m))) (by omega) (by omega)
          refine ⟨lo', j', ?_⟩
          have e : firstG F s c (fuel + 1) lo hi = firstG F s c fuel lo m := by
            show (if 1 < hi - lo then (if c ≤ F.chg s ((lo + hi) / 2) then firstG F s c fuel lo ((lo + hi) / 2) else firstG F s c fuel ((lo + hi) / 2) hi) else hi) = _
            rw [if_pos h1, hm, if_pos q]
          rw [e, ← ih]
          simp [h1, hm, h49, q]
        · obtain ⟨lo', j', ih⟩ := first_loop n V h c k fuel m hi (some (.d (.int m))) (by omega) (by omega)
          refine ⟨lo', j', ?_⟩
          have e : firstG F s c (fuel + 1) lo hi = firstG F s c fuel m hi := by
            show (if 1 < hi - lo then (if c ≤ F.chg s ((lo + hi) / 2) then firstG F s c fuel lo ((lo + hi) / 2) else firstG F s c fuel ((lo + hi) / 2) hi) else hi) = _
            rw [if_pos h1, hm, if_neg q]
          rw [e, ← ih]
          simp [h1, hm, h49, q]
    · have e : firstG F s c (fuel + 1) lo hi = hi := by
        show (if 1 < hi - lo then _ else hi) = _
        rw [if_neg h1]
      rw [e]
      unfold whlRun
      simp [h1]
def firstL (F : Fm) (s : St) (lo c : Int) : Int := firstG F s c 64 lo (lo + 4000000000)
theorem F53 (n : Nat) (F : Fm) (V : F.V) (s : St) (h : F.S s) (lo c : Int) : Fn (n + 2) 53 [F.D, stD s, .int lo, .int c] = some (.int (firstL F s lo c)) := by
  rw [Fn_run (D := d_law_first) (n + 1) 53 _ rfl (by decide) rfl rfl rfl]
  obtain ⟨lo', j', loop⟩ := first_loop n V h c 32 64 lo (lo + 4000000000) none (by omega) (by omega)
  have hm : mulB 4 1000000000 = true := by decide
  simp [DefT.run, d_law_first, t_law_first, n_law_first, hm]
  have loop := loop
  simp only [firstL]
  generalize hF : whlRun _ _ _ _ _ = o
  rw [← hF, loop]
  simp
/-! ### edges, tries -/
def edgesL (F : Fm) (s : St) : List Int :=
  if F.chg s F.far = F.chg s (F.far + 4000000000) then [F.far]
  else [F.far, firstL F s F.far (F.chg s F.far + 1) - 1, firstL F s F.far (F.chg s F.far + 1)] ++ match F.most with
    | none => []
    | some _ => [firstL F s F.far (F.chg s (F.far + 4000000000)) - 1, firstL F s F.far (F.chg s (F.far + 4000000000))]
theorem edges_len (F : Fm) (s : St) : (edgesL F s).length ≤ 5 := by
  unfold edgesL
  split
  · simp
  · cases F.most <;> simp
theorem F54 (n : Nat) (F : Fm) (V : F.V) (s : St) (h : F.S s) : Fn (n + 3) 54 [F.D, stD s] = some (.list ((edgesL F s).map .int)) := by
  rw [Fn_run (D := d_law_edges) (n + 2) 54 _ rfl (by decide) rfl rfl rfl]
  have hm : mulB 4 1000000000 = true := by decide
  have h49 := F49 (n + 1) F V s h
  have h53 := F53 n F V s h
  unfold edgesL
  by_cases q : F.chg s F.far = F.chg s (F.far + 4000000000)
  · simp [DefT.run, d_law_edges, t_law_edges, n_law_edges, hm, F52 (n + 1) F V, h49, setN, q]
  · cases hs : F.most with
    | none => simp [DefT.run, d_law_edges, t_law_edges, n_law_edges, hm, F52 (n + 1) F V, h49, h53, setN, q, hs]
    | some m => simp [DefT.run, d_law_edges, t_law_edges, n_law_edges, hm, F52 (n + 1) F V, h49, h53, setN, q, hs]
def foundL (F : Fm) (s : St) (G : Fm) (t : St) : List Int := max F.far G.far :: (edgesL F s ++ edgesL G t).filter fun u => decide (max F.far G.far < u)
def triesL (F : Fm) (s : St) (G : Fm) (t : St) : List Int := rng (max F.far G.far) ++ uniqI (foundL F s G t) ++ [(maxI (foundL F s G t)).getD 0 + 1]
theorem found_len (F : Fm) (s : St) (G : Fm) (t : St) : (foundL F s G t).length ≤ 11 := by
  have h1 := edges_len F s
  have h2 := edges_len G t
  have h3 := List.length_filter_le (fun u => decide (max F.far G.far < u)) (edgesL F s ++ edgesL G t)
  simp only [List.length_append] at h3
  unfold foundL
  simp only [List.length_cons]
  omega
theorem tries_len {F : Fm} (V : F.V) (s : St) {G : Fm} (W : G.V) (t : St) : (triesL F s G t).length ≤ 39 := by
  have h1 := found_len F s G t
  have h2 := uniqI_len (foundL F s G t)
  have h3 := far_le V
  have h4 := far_le W
  unfold triesL
  simp only [List.length_append, rng_len, List.length_singleton]
  omega
theorem mxq_l (ns : List Int) : biD .mxq (.list (ns.map .int)) = (maxI ns).map .int := by
  simp [biD, intsD_map]
theorem F55 (n : Nat) (F : Fm) (V : F.V) (s : St) (h : F.S s) (G : Fm) (W : G.V) (t : St) (h' : G.S t) : Fn (n + 4) 55 [F.D, stD s, G.D, stD t] = some (.list ((triesL F s G t).map .int)) := by
  rw [Fn_run (D := d_law_tries) (n + 3) 55 _ rfl (by decide) rfl rfl rfl]
  have h1 := edges_len F s
  have h2 := edges_len G t
  have h3 := far_le V
  have h4 := far_le W
  have h5 : (edgesL F s).length + (edgesL G t).length ≤ 16777216 := by omega
  simp only [DefT.run, d_law_tries, t_law_tries]
  simp [n_law_tries, F52 (n + 2), V, W, F54 n, h, h', h5]
  generalize hF : lcRun _ _ _ _ = o
  have hm : ∀ x ∈ (edgesL F s).map PyData.int ++ (edgesL G t).map .int, ∃ i, x = .int i := by
    intro x hx
    rcases List.mem_append.mp hx with hx | hx <;> obtain ⟨i, _, rfl⟩ := List.mem_map.mp hx <;> exact ⟨i, rfl⟩
  rw [lc_fil (p := gtB (max F.far G.far)) hF (fun x hx => by
    obtain ⟨i, rfl⟩ := hm x hx
    simp [lcS, gtB]
    by_cases q : max F.far G.far < i <;> simp [q]) (by simp; omega)]
  rw [← List.map_append, fil_int _ (fun u => decide (max F.far G.far < u)) _ (fun n => rfl)]
  have hl := found_len F s G t
  have hu := uniqI_len (foundL F s G t)
  have ef : foundL F s G t = max F.far G.far :: (edgesL F s ++ edgesL G t).filter fun u => decide (max F.far G.far < u) := rfl
  generalize hfi : ((edgesL F s ++ edgesL G t).filter fun u => decide (max F.far G.far < u)) = fi at ef
  have el : (foundL F s G t).length = fi.length + 1 := by rw [ef]; rfl
  have e1 : PyData.int (max F.far G.far) :: fi.map .int = (foundL F s G t).map .int := by rw [ef]; rfl
  have q1 : 1 + fi.length ≤ 16777216 := by omega
  have q2 : fi.length + 1 ≤ 16777216 := by omega
  have q3 : -4611686018427387904 ≤ max F.far G.far := by omega
  have q4 : max F.far G.far ≤ 16777216 := by omega
  obtain ⟨m, hmx⟩ := maxI_some (foundL F s G t) (by rw [ef]; simp)
  have q5 : (foundL F s G t).length < 64 := by omega
  have q6 : (rng (max F.far G.far)).length + (uniqI (foundL F s G t)).length ≤ 16777216 := by rw [rng_len]; omega
  have q7 : (rng (max F.far G.far)).length + ((uniqI (foundL F s G t)).length + 1) ≤ 16777216 := by rw [rng_len]; omega
  have q7' : (rng (max F.far G.far)).length + (uniqI (foundL F s G t)).length ≤ 16777215 := by rw [rng_len]; omega
  have hlr : lrgD [.int (max F.far G.far)] = some ((rng (max F.far G.far)).map .int) := by rw [lrg_1, if_pos (by omega)]
  simp [q1, q2, hlr, -lrg_1]
  rw [e1]
  simp [hlr, q5, q6, q7, q7', mxq_l, hmx, triesL, -lrg_1]
def allowL (ts : List Int) : Option Int → List Int
  | none => ts
  | some m => uniqI (ts.filter (fun u => decide (u < m)) ++ [m])
theorem F56 (n : Nat) (ts : List Int) (hl : ts.length ≤ 60) (mo : Option Int) : Fn (n + 1) 56 [.list (ts.map .int), optI mo] = some (.list ((allowL ts mo).map .int)) := by
  rw [Fn_run (D := d_law_allowed) n 56 _ rfl (by decide) rfl rfl rfl]
  cases mo with
  | none => simp [DefT.run, d_law_allowed, t_law_allowed, n_law_allowed, allowL]
  | some m =>
    simp [DefT.run, d_law_allowed, t_law_allowed, n_law_allowed, allowL]
    generalize hF : lcRun _ _ _ _ = o
    rw [lc_fil (p := ltB m) hF (fun x hx => by
      obtain ⟨i, _, rfl⟩ := List.mem_map.mp hx
      simp [lcS, ltB]
      by_cases q : i < m <;> simp [q]) (by simp; omega)]
    rw [fil_int _ (fun u => decide (u < m)) _ (fun n => rfl)]
    have h4 := List.length_filter_le (fun u => decide (u < m)) ts
    generalize ts.filter (fun u => decide (u < m)) = fi at h4
    have e1 : fi.map PyData.int ++ [.int m] = (fi ++ [m]).map .int := by simp
    have q1 : fi.length + 1 ≤ 16777216 := by omega
    have q2 : fi.length ≤ 16777215 := by omega
    have q3 : fi.length + 1 < 64 := by omega
    have q4 : fi.length < 63 := by omega
    simp [q1, q2]
    rw [e1]
    simp [q3, q4, -List.map_append]
end K26.Q
namespace K26.Q
open PySem L2
theorem for_foldk {α β : Type} {enc : α → PyData} {R : β → Gm → Prop} {step : β → α → β} {sz : β → Nat} {K : Nat} {S : Pl} {f : PyData → Gm → Pl → Option Out} {ts : List α} {o : Option Out} {Γ : Gm} (b : β) (m : Nat) (hF : forRun f (ts.map enc) Γ S = o)
    (hs : ∀ b x, x ∈ ts → sz (step b x) ≤ sz b + m) (h : ∀ b Γ x, x ∈ ts → sz b + m ≤ K → R b Γ → ∃ Γ', f (enc x) Γ S = some (.nx Γ' S) ∧ R (step b x) Γ') (r : R b Γ) (hk : sz b + m * ts.length ≤ K) : ∃ Γ', o = some (.nx Γ' S) ∧ R (ts.foldl step b) Γ' := by
  subst hF
  induction ts generalizing b Γ with
  | nil => exact ⟨Γ, rfl, r⟩
  | cons t ts ih =>
    simp only [List.length_cons, Nat.mul_add, Nat.mul_one] at hk
    obtain ⟨Γ', h1, h2⟩ := h b Γ t (by simp) (by omega) r
    rw [List.map_cons]
    unfold forRun
    rw [h1]
    have := hs b t (by simp)
    exact ih _ (fun b x hx => hs b x (by simp [hx])) (fun b Γ x hx => h b Γ x (by simp [hx])) h2 (by omega)
def storeR : List Rw → St × St → Int → List Rw
  | [], p, v => [(p, v)]
  | r :: rs, p, v => if r.1 = p then (p, v) :: rs else r :: storeR rs p v
theorem store_enc (p : St × St) (v : Int) : ∀ rows : List Rw, storeD (encK rows) (kS p) (.int v) = encK (storeR rows p v)
  | [] => by simp [encK, storeD, kS_data, storeR]
  | r :: rows => by
    have ih := store_enc p v rows
    show storeD ((prS r.1, .int r.2) :: encK rows) (kS p) (.int v) = _
    unfold storeD storeR
    rw [key_pr]
    by_cases e : r.1 = p
    · rw [if_pos (by rw [e]), if_pos e, e]
      rfl
    · rw [if_neg (fun z => e (kS_inj (Option.some.inj z))), if_neg e, ih]
      rfl
theorem storeR_len (rows : List Rw) (p : St × St) (v : Int) : (storeR rows p v).length ≤ rows.length + 1 := by
  induction rows with
  | nil => simp [storeR]
  | cons r rows ih =>
    unfold storeR
    split
    · simp
    · simpa using ih
def relW (rows : List Rw) (q : St × St) (w : Int) : List Rw := storeR rows q (max w ((rows.lookup q).getD w))
def stepW (F G : Fm) (p : St × St) (rows : List Rw) (u : Int) : List Rw := relW rows (F.nxt p.1 u, G.nxt p.2 u) (gap F p.1 G p.2 u)
def pen (ts : List Int) : Int := (ts[ts.length - 2]?).getD 0
def lst (ts : List Int) : Int := (ts.getLast?).getD 0
def stepsL (F G : Fm) (mo : Option Int) (p : St × St) : Option (List Rw) :=
  if mo = none ∧ gap F p.1 G p.2 (pen (triesL F p.1 G p.2)) < gap F p.1 G p.2 (lst (triesL F p.1 G p.2)) then none
  else some ((allowL (triesL F p.1 G p.2) mo).foldl (stepW F G p) [])
theorem uniqI_ne {ns : List Int} (h : ns ≠ []) : uniqI ns ≠ [] := by
  obtain ⟨a, r, rfl⟩ := List.exists_cons_of_ne_nil h
  intro z
  have : a ∈ uniqI (a :: r) := uniqI_mem.mpr (by simp)
  rw [z] at this
  cases this
theorem tries_two (F : Fm) (s : St) (G : Fm) (t : St) : ∃ A a b, triesL F s G t = A ++ [a, b] := by
  have h := uniqI_ne (ns := foundL F s G t) (by simp [foundL])
  refine ⟨rng (max F.far G.far) ++ (uniqI (foundL F s G t)).dropLast, (uniqI (foundL F s G t)).getLast h, (maxI (foundL F s G t)).getD 0 + 1, ?_⟩
  unfold triesL
  have e := List.dropLast_concat_getLast h
  rw [List.append_assoc, List.append_assoc]
  congr 1
  conv => lhs; rw [← e]
  rw [List.append_assoc]
  rfl
theorem tries_last (F : Fm) (s : St) (G : Fm) (t : St) : (triesL F s G t).getLast? = some (lst (triesL F s G t)) ∧ atI ((triesL F s G t).map PyData.int) (-2) = some (.int (pen (triesL F s G t))) := by
  obtain ⟨A, a, b, e⟩ := tries_two F s G t
  rw [e]
  refine ⟨by simp [lst], ?_⟩
  have := atI_neg ((A ++ [a, b]).map PyData.int) 1 (by simp)
  refine this.trans ?_
  unfold pen
  simp
@[simp] theorem put_guard {rows : List Rw} {p : St × St} (h : rows.length < 16777216) : (kS p).depth ≤ 8 ∧ (encK rows).length < SL := ⟨kS_dep p, by simpa [encK] using h⟩
theorem allow_len {F : Fm} (V : F.V) (s : St) {G : Fm} (W : G.V) (t : St) (mo : Option Int) : (allowL (triesL F s G t) mo).length ≤ 40 := by
  have h := tries_len V s W t
  cases mo with
  | none => simp only [allowL]; omega
  | some m =>
    have h1 := uniqI_len ((triesL F s G t).filter (fun u => decide (u < m)) ++ [m])
    have h2 := List.length_filter_le (fun u => decide (u < m)) (triesL F s G t)
    simp only [List.length_append, List.length_singleton] at h1
    simp only [allowL]
    omega
@[simp] theorem rdO_d {Γ : Gm} {S : Pl} {i : Nat} {kvs : List (PyData × PyData)} (h : Γ[i]? = some (some (.ownD kvs))) : rdO Γ S i = some (.dict kvs) := by unfold rdO; rw [h]
theorem F58 (n : Nat) (F : Fm) (V : F.V) (G : Fm) (W : G.V) (p : St × St) (hp : F.S p.1 ∧ G.S p.2) (mo : Option Int) :
    Fn (n + 5) 58 [F.D, G.D, prS p, optI mo] = some (match stepsL F G mo p with | none => .none | some rows => .dict (encK rows)) := by
  rw [Fn_run (D := d_law_steps) (n + 4) 58 _ rfl (by decide) rfl rfl rfl]
  obtain ⟨hl, h2⟩ := tries_last F p.1 G p.2
  have h55 := F55 n F V p.1 hp.1 G W p.2 hp.2
  have h57 := fun u => F57 (n + 2) F V p.1 hp.1 G W p.2 hp.2 u
  have ha := allow_len V p.1 W p.2 mo
  have h56 := F56 (n + 3) (triesL F p.1 G p.2) (by have := tries_len V p.1 W p.2; omega) mo
  have tail : ∀ (l : List Int) (o), l.length ≤ 40 → forRun (forS (cfN (n + 4)) (.nm 9) (.cons (.set 10 (.tup (.cons (.call 50 (.cons (.var 0) (.cons (.var 4) (.cons (.var 9) .nil)))) (.cons (.call 50 (.cons (.var 1) (.cons (.var 5) (.cons (.var 9) .nil)))) .nil)))) (.cons (.set 11 (.call 57 (.cons (.var 0) (.cons (.var 4) (.cons (.var 1) (.cons (.var 5) (.cons (.var 9) .nil))))))) (.cons (.put 8 (.var 10) (.bj .mx (.var 11) (.geto 8 (.var 10) (.var 11)))) .nil))))
      (l.map .int) [some (.d F.D), some (.d G.D), some (.d (prS p)), some (.d (optI mo)), some (.d (stD p.1)), some (.d (stD p.2)), some (.d (.list ((triesL F p.1 G p.2).map .int))), some (.d (.int (gap F p.1 G p.2 (lst (triesL F p.1 G p.2))))), some (.ownD []), none, none, none] [] = o →
      ∃ a6 a7 j1 j2 j3, o = some (.nx [some (.d F.D), some (.d G.D), some (.d (prS p)), some (.d (optI mo)), some (.d (stD p.1)), some (.d (stD p.2)), a6, a7, some (.ownD (encK (l.foldl (stepW F G p) []))), j1, j2, j3] []) := by
    intro l o hl hF
    have key := for_foldk (R := fun (rows : List Rw) Γ => ∃ a6 a7 j1 j2 j3, Γ = [some (.d F.D), some (.d G.D), some (.d (prS p)), some (.d (optI mo)), some (.d (stD p.1)), some (.d (stD p.2)), a6, a7, some (.ownD (encK rows)), j1, j2, j3])
      (step := stepW F G p) (sz := List.length) (K := 1000) [] 1 hF
    replace key := key (fun b x _ => storeR_len _ _ _) (by
      rintro b Γ u hu hb ⟨a6, a7, j1, j2, j3, rfl⟩
      have hpr : PyData.tuple [stD (F.nxt p.1 u), stD (G.nxt p.2 u)] = prS (F.nxt p.1 u, G.nxt p.2 u) := rfl
      have hk := key_pr (F.nxt p.1 u, G.nxt p.2 u)
      have hkt : ∃ ks, prS (F.nxt p.1 u, G.nxt p.2 u) = .tuple ks := ⟨_, rfl⟩
      obtain ⟨ks, hks⟩ := hkt
      have hg := put_guard (rows := b) (p := (F.nxt p.1 u, G.nxt p.2 u)) (by omega)
      have hge : ∀ x : Int, (((b.lookup (F.nxt p.1 u, G.nxt p.2 u)).map PyData.int).getD (.int x)) = .int ((b.lookup (F.nxt p.1 u, G.nxt p.2 u)).getD x) := fun x => by cases b.lookup (F.nxt p.1 u, G.nxt p.2 u) <;> rfl
      refine ⟨[some (.d F.D), some (.d G.D), some (.d (prS p)), some (.d (optI mo)), some (.d (stD p.1)), some (.d (stD p.2)), a6, a7, some (.ownD (encK (stepW F G p b u))), some (.d (.int u)), some (.d (prS (F.nxt p.1 u, G.nxt p.2 u))), some (.d (.int (gap F p.1 G p.2 u)))], ?_, _, _, _, _, _, rfl⟩
      simp [forS, F50 (n + 3), V, W, hpr, h57, get_enc, hge]
      rw [hks]
      simp only
      rw [← hks, hk]
      simp only [Option.bind_some]
      rw [if_pos hg, store_enc]
      rfl) ⟨_, _, _, _, _, rfl⟩ (by simp; omega)
    obtain ⟨Γ', h1, a6, a7, j1, j2, j3, rfl⟩ := key
    exact ⟨_, _, _, _, _, h1⟩
  unfold stepsL
  cases mo with
  | none =>
    simp only [optI_n] at tail h56
    by_cases q : gap F p.1 G p.2 (pen (triesL F p.1 G p.2)) < gap F p.1 G p.2 (lst (triesL F p.1 G p.2))
    · simp [DefT.run, d_law_steps, t_law_steps, n_law_steps, h55, h57, List.getLast?_map, hl, h2, q]
    · simp [DefT.run, d_law_steps, t_law_steps, n_law_steps, h55, h57, List.getLast?_map, hl, h2, q, h56]
      generalize hF : forRun _ _ _ _ = o
      obtain ⟨a6, a7, j1, j2, j3, rfl⟩ := tail _ o ha hF
      simp
  | some m =>
    simp only [optI_s] at tail h56
    simp [DefT.run, d_law_steps, t_law_steps, n_law_steps, h55, h57, List.getLast?_map, hl, h2, h56]
    generalize hF : forRun _ _ _ _ = o
    obtain ⟨a6, a7, j1, j2, j3, rfl⟩ := tail _ o ha hF
    simp
end K26.Q
namespace K26.Q
open PySem L2
/-! ### the losses -/
def lossW (F : Fm) (p : St × St) (less : Int) (rows : List Rw) (more : Int) : List Rw := relW rows (F.nxt p.1 less, F.nxt p.2 more) (F.chg p.1 less - F.chg p.2 more)
def lossS (F : Fm) (p : St × St) : List Int → List Rw → List Rw
  | [], rows => rows
  | less :: r, rows => lossS F p r ((less :: r).foldl (lossW F p less) rows)
def lossL (F : Fm) (mo : Option Int) (p : St × St) : List Rw := lossS F p (allowL (triesL F p.1 F p.2) mo) []
def lgD (F : Fm) (p : St × St) (u : Int) : PyData := .tuple [.int (F.chg p.2 u), stD (F.nxt p.2 u)]
theorem lossW_len (F : Fm) (p : St × St) (less : Int) : ∀ (l : List Int) (rows : List Rw), (l.foldl (lossW F p less) rows).length ≤ rows.length + l.length
  | [], rows => by simp
  | u :: l, rows => by
    have h := lossW_len F p less l (lossW F p less rows u)
    have h1 : (lossW F p less rows u).length ≤ rows.length + 1 := storeR_len _ _ _
    simp only [List.foldl_cons, List.length_cons]
    omega
def lossI : Ss := (.cons (.put 7 (.tup (.cons (.var 11) (.cons (.var 13) .nil))) (.bj .mx (.bin .Sub (.var 10) (.var 12)) (.geto 7 (.tup (.cons (.var 11) (.cons (.var 13) .nil))) (.bin .Sub (.var 10) (.var 12))))) .nil)
theorem loss_inner (n : Nat) {F : Fm} (V : F.V) (p : St × St) (hp : F.S p.1 ∧ F.S p.2) (pre : List (Option Sl)) (hpre : pre.length = 7) (less : Int) (a8 a9 a14 : Option Sl) (l : List Int) (rows : List Rw) (hk : rows.length + l.length ≤ 16777000) (j12 j13 : Option Sl) :
    ∃ k12 k13, forRun (forS (cfN n) (.tp (.cons (.nm 12) (.cons (.nm 13) .nil))) lossI) (l.map (lgD F p)) (pre ++ [some (.ownD (encK rows)), a8, a9, some (.d (.int (F.chg p.1 less))), some (.d (stD (F.nxt p.1 less))), j12, j13, a14]) [] =
      some (.nx (pre ++ [some (.ownD (encK (l.foldl (lossW F p less) rows))), a8, a9, some (.d (.int (F.chg p.1 less))), some (.d (stD (F.nxt p.1 less))), k12, k13, a14]) []) := by
  match pre, hpre with
  | [b0, b1, b2, b3, b4, b5, b6], _ =>
    have key := for_foldk (ts := l) (enc := lgD F p) (o := forRun (forS (cfN n) (.tp (.cons (.nm 12) (.cons (.nm 13) .nil))) lossI) (l.map (lgD F p)) ([b0, b1, b2, b3, b4, b5, b6] ++ [some (.ownD (encK rows)), a8, a9, some (.d (.int (F.chg p.1 less))), some (.d (stD (F.nxt p.1 less))), j12, j13, a14]) [])
      (R := fun (rows : List Rw) Γ => ∃ j12 j13, Γ = [b0, b1, b2, b3, b4, b5, b6] ++ [some (.ownD (encK rows)), a8, a9, some (.d (.int (F.chg p.1 less))), some (.d (stD (F.nxt p.1 less))), j12, j13, a14])
      (step := lossW F p less) (sz := List.length) (K := 16777001) rows 1 rfl
    replace key := key (fun b x _ => storeR_len _ _ _) (by
      rintro b Γ u hu hb ⟨j12, j13, rfl⟩
      have hpr : PyData.tuple [stD (F.nxt p.1 less), stD (F.nxt p.2 u)] = prS (F.nxt p.1 less, F.nxt p.2 u) := rfl
      have hk := key_pr (F.nxt p.1 less, F.nxt p.2 u)
      obtain ⟨ks, hks⟩ : ∃ ks, prS (F.nxt p.1 less, F.nxt p.2 u) = .tuple ks := ⟨_, rfl⟩
      have hg := put_guard (rows := b) (p := (F.nxt p.1 less, F.nxt p.2 u)) (by omega)
      have hge : ∀ x : Int, (((b.lookup (F.nxt p.1 less, F.nxt p.2 u)).map PyData.int).getD (.int x)) = .int ((b.lookup (F.nxt p.1 less, F.nxt p.2 u)).getD x) := fun x => by cases b.lookup (F.nxt p.1 less, F.nxt p.2 u) <;> rfl
      refine ⟨[b0, b1, b2, b3, b4, b5, b6] ++ [some (.ownD (encK (lossW F p less b u))), a8, a9, some (.d (.int (F.chg p.1 less))), some (.d (stD (F.nxt p.1 less))), some (.d (.int (F.chg p.2 u))), some (.d (stD (F.nxt p.2 u))), a14], ?_, _, _, rfl⟩
      simp [forS, lgD, lossI, hpr, get_enc, hge]
      rw [hks]
      simp only
      rw [← hks, hk]
      simp only [Option.bind_some]
      rw [if_pos hg, store_enc]
      rfl) ⟨_, _, rfl⟩ (by omega)
    obtain ⟨Γ', h1, k12, k13, rfl⟩ := key
    exact ⟨k12, k13, h1⟩
def lossO : Ss := (.cons (.par [10, 11] (.cons (.call 49 (.cons (.var 0) (.cons (.var 3) (.cons (.var 9) .nil)))) (.cons (.call 50 (.cons (.var 0) (.cons (.var 3) (.cons (.var 9) .nil)))) .nil))) (.cons (.for_ (.tp (.cons (.nm 12) (.cons (.nm 13) .nil))) (.seq (.sl (.var 6) (.so (.var 8)) .no)) lossI) .nil))
theorem loss_outer (n : Nat) {F : Fm} (V : F.V) (p : St × St) (hp : F.S p.1 ∧ F.S p.2) (b1 b2 b5 : Option Sl) (all : List Int) (hall : all.length ≤ 40) : ∀ (suf pre : List Int) (rows : List Rw) (j8 j9 j10 j11 j12 j13 j14 : Option Sl), pre ++ suf = all → rows.length + 40 * suf.length ≤ 10000 →
    ∃ k8 k9 k10 k11 k12 k13 k14, forRun (forS (cfN (n + 1)) (.tp (.cons (.nm 8) (.cons (.nm 9) .nil))) lossO) (enu pre.length (suf.map .int)) [some (.d F.D), b1, b2, some (.d (stD p.1)), some (.d (stD p.2)), b5, some (.d (.list (all.map (lgD F p)))), some (.ownD (encK rows)), j8, j9, j10, j11, j12, j13, j14] [] =
      some (.nx [some (.d F.D), b1, b2, some (.d (stD p.1)), some (.d (stD p.2)), b5, some (.d (.list (all.map (lgD F p)))), some (.ownD (encK (lossS F p suf rows))), k8, k9, k10, k11, k12, k13, k14] [])
  | [], pre, rows, j8, j9, j10, j11, j12, j13, j14, _, _ => ⟨j8, j9, j10, j11, j12, j13, j14, by simp [enu, forRun, lossS]⟩
  | less :: r, pre, rows, j8, j9, j10, j11, j12, j13, j14, hp', hk => by
    have hlen : pre.length + (r.length + 1) = all.length := by rw [← hp']; simp
    simp only [List.length_cons] at hk
    have hcut : cutD (all.map (lgD F p)) (some (pre.length : Int)) none = (less :: r).map (lgD F p) := by
      rw [cut_from, ← hp', ← List.map_drop]
      simp
    have hw := lossW_len F p less (less :: r) rows
    simp only [List.length_cons] at hw
    obtain ⟨m12, m13, inner⟩ := loss_inner (n + 1) V p hp [some (.d F.D), b1, b2, some (.d (stD p.1)), some (.d (stD p.2)), b5, some (.d (.list (all.map (lgD F p))))] rfl less (some (.d (.int pre.length))) (some (.d (.int less))) j14 (less :: r) rows (by simp only [List.length_cons]; omega) j12 j13
    obtain ⟨k8, k9, k10, k11, k12, k13, k14, ih⟩ := loss_outer n V p hp b1 b2 b5 all hall r (pre ++ [less]) ((less :: r).foldl (lossW F p less) rows) (some (.d (.int pre.length))) (some (.d (.int less))) (some (.d (.int (F.chg p.1 less)))) (some (.d (stD (F.nxt p.1 less)))) m12 m13 j14 (by simp [← hp']) (by omega)
    refine ⟨k8, k9, k10, k11, k12, k13, k14, ?_⟩
    rw [List.length_append, List.length_singleton] at ih
    simp only [List.map_cons, List.cons_append, List.nil_append] at inner hcut
    rw [List.map_cons]
    unfold enu forRun
    have h49 := F49 n F V p.1 hp.1 less
    have h50 := F50 n F V p.1 less
    have st : forS (cfN (n + 1)) (.tp (.cons (.nm 8) (.cons (.nm 9) .nil))) lossO (.tuple [.int pre.length, .int less]) [some (.d F.D), b1, b2, some (.d (stD p.1)), some (.d (stD p.2)), b5, some (.d (.list (all.map (lgD F p)))), some (.ownD (encK rows)), j8, j9, j10, j11, j12, j13, j14] [] =
        some (.nx [some (.d F.D), b1, b2, some (.d (stD p.1)), some (.d (stD p.2)), b5, some (.d (.list (all.map (lgD F p)))), some (.ownD (encK ((less :: r).foldl (lossW F p less) rows))), some (.d (.int pre.length)), some (.d (.int less)), some (.d (.int (F.chg p.1 less))), some (.d (stD (F.nxt p.1 less))), m12, m13, j14] []) := by
      simp [forS, lossO, h49, h50, setN, hcut, inner]
    rw [st]
    exact ih
theorem F59 (n : Nat) (F : Fm) (V : F.V) (p : St × St) (hp : F.S p.1 ∧ F.S p.2) (mo : Option Int) : Fn (n + 5) 59 [F.D, prS p, optI mo] = some (.dict (encK (lossL F mo p))) := by
  rw [Fn_run (D := d_law_loss_steps) (n + 4) 59 _ rfl (by decide) rfl rfl rfl]
  have h55 := F55 n F V p.1 hp.1 F V p.2 hp.2
  have ha := allow_len V p.1 V p.2 mo
  have h56 := F56 (n + 3) (triesL F p.1 F p.2) (by have := tries_len V p.1 V p.2; omega) mo
  simp only [DefT.run, d_law_loss_steps, t_law_loss_steps]
  simp [n_law_loss_steps, h55, h56]
  unfold lossL
  generalize allowL (triesL F p.1 F p.2) mo = all at ha h56
  generalize hF : lcRun _ _ _ _ = o
  rw [lc_map (h := fun x => match x with
    | .int u => lgD F p u
    | _ => .none) hF (fun x hx => by
    obtain ⟨u, _, rfl⟩ := List.mem_map.mp hx
    simp [lcS, F49 (n + 3), F50 (n + 3), V, hp, lgD]) (by simp; omega)]
  have e1 : (all.map PyData.int).map (fun x => match x with
    | .int u => lgD F p u
    | _ => .none) = all.map (lgD F p) := by rw [List.map_map]; rfl
  rw [e1]
  obtain ⟨k8, k9, k10, k11, k12, k13, k14, loop⟩ := loss_outer (n + 3) V p hp (some (.d (prS p))) (some (.d (optI mo))) (some (.d (.list (all.map .int)))) all ha all [] [] none none none none none none none rfl (by simp; omega)
  simp only [lossO, lossI, List.length_nil] at loop
  rw [show encK ([] : List Rw) = [] from rfl] at loop
  simp [mapIdx_enu, loop]
end K26.Q
namespace K26.Q
open PySem L2
abbrev Pr2 := St × St
/-! ### the greatest sums -/
def relax (p : Pr2) (b : List Rw × Bool) (g : Rw) : List Rw × Bool :=
  match b.1.lookup g.1 with
  | none => (storeR b.1 g.1 ((b.1.lookup p).getD 0 + g.2), true)
  | some old => if old < (b.1.lookup p).getD 0 + g.2 then (storeR b.1 g.1 ((b.1.lookup p).getD 0 + g.2), true) else b
def procP (ways : Pr2 → Option (List Rw)) (b : List Rw × Bool) (p : Pr2) : Option (List Rw × Bool) := (ways p).map fun ws => ws.foldl (relax p) b
def roundP (ways : Pr2 → Option (List Rw)) (rows : List Rw) : Option (List Rw × Bool) := (rows.map (·.1)).foldlM (procP ways) (rows, false)
def settle (ways : Pr2 → Option (List Rw)) : Nat → Nat → List Rw → Option (List Rw)
  | 0, _, _ => none
  | k + 1, t, rows => match roundP ways rows with
    | none => none
    | some (f, mv) => if mv = false then some f else if f.length + 1 < t then none else settle ways k (t + 1) f
/-! #### keys, once each, of a finite kind -/
theorem nodup_len {α : Type} [DecidableEq α] : ∀ (l m : List α), l.Nodup → (∀ x ∈ l, x ∈ m) → l.length ≤ m.length
  | [], m, _, _ => by simp
  | x :: l, m, h, hm => by
    have hx : x ∈ m := hm x (by simp)
    have hn := List.nodup_cons.mp h
    have := nodup_len l (m.erase x) hn.2 (fun y hy => (List.mem_erase_of_ne (fun (e : y = x) => hn.1 (e ▸ hy))).mpr (hm y (by simp [hy])))
    rw [List.length_erase_of_mem hx] at this
    have : 0 < m.length := List.length_pos_of_mem hx
    simp only [List.length_cons]
    omega
theorem keys_store (p : Pr2) (v : Int) : ∀ rows : List Rw, (storeR rows p v).map (·.1) = if p ∈ rows.map (·.1) then rows.map (·.1) else rows.map (·.1) ++ [p]
  | [] => by simp [storeR]
  | r :: rows => by
    have ih := keys_store p v rows
    unfold storeR
    by_cases e : r.1 = p
    · rw [if_pos e]; simp [e]
    · rw [if_neg e, List.map_cons, ih]
      have e' : ¬ p = r.1 := fun z => e z.symm
      by_cases q : p ∈ rows.map (·.1)
      · rw [if_pos q, if_pos (by rw [List.map_cons]; exact List.mem_cons_of_mem _ q)]; rfl
      · rw [if_neg q, if_neg (by rw [List.map_cons, List.mem_cons]; exact not_or.mpr ⟨e', q⟩)]; rfl
theorem lookup_store (p q : Pr2) (v : Int) : ∀ rows : List Rw, (storeR rows p v).lookup q = if q = p then some v else rows.lookup q
  | [] => by
    by_cases e : q = p
    · simp [storeR, List.lookup, e]
    · have e' : (q == p) = false := by simpa using e
      simp [storeR, List.lookup, e, e']
  | (k, w) :: rows => by
    have ih := lookup_store p q v rows
    unfold storeR
    by_cases e : k = p
    · rw [if_pos e]
      by_cases e2 : q = p
      · simp [List.lookup, e2]
      · have e' : (q == p) = false := by simpa using e2
        simp [List.lookup, e2, e', e]
    · rw [if_neg e]
      by_cases e2 : q = k
      · subst e2
        simp [List.lookup, e]
      · have e' : (q == k) = false := by simpa using e2
        simp only [List.lookup, e', ih]
structure RowsOk (Good : Pr2 → Prop) (rows : List Rw) : Prop where
  nd : (rows.map (·.1)).Nodup
  gd : ∀ p ∈ rows.map (·.1), Good p
theorem RowsOk.store {Good : Pr2 → Prop} {rows : List Rw} (R : RowsOk Good rows) {p : Pr2} (hp : Good p) (v : Int) : RowsOk Good (storeR rows p v) := by
  refine ⟨?_, ?_⟩
  · rw [keys_store]
    split
    · exact R.nd
    · rename_i h
      rw [List.nodup_append]
      refine ⟨R.nd, by simp, fun a ha b hb e => ?_⟩
      rw [List.mem_singleton] at hb
      exact h (hb ▸ e ▸ ha)
  · intro q hq
    rw [keys_store] at hq
    split at hq
    · exact R.gd q hq
    · rcases List.mem_append.mp hq with hq | hq
      · exact R.gd q hq
      · rw [List.mem_singleton] at hq
        exact hq ▸ hp
theorem RowsOk.len {Good : Pr2 → Prop} {rows : List Rw} (R : RowsOk Good rows) {U : List Pr2} (hU : ∀ p, Good p → p ∈ U) : rows.length ≤ U.length := by
  have := nodup_len _ U R.nd fun p hp => hU p (R.gd p hp)
  simpa using this
theorem lookup_of_mem {rows : List Rw} (nd : (rows.map (·.1)).Nodup) {r : Rw} (h : r ∈ rows) : rows.lookup r.1 = some r.2 := by
  induction rows with
  | nil => cases h
  | cons q rows ih =>
    obtain ⟨k, w⟩ := q
    rw [List.map_cons, List.nodup_cons] at nd
    rcases List.mem_cons.mp h with h | h
    · subst h; simp [List.lookup]
    · have e : r.1 ≠ k := fun z => nd.1 (List.mem_map.mpr ⟨r, h, z⟩)
      have e' : (r.1 == k) = false := by simpa using e
      simp only [List.lookup, e']
      exact ih nd.2 h
theorem lookup_keys {rows : List Rw} {p : Pr2} : (rows.lookup p).isSome = true ↔ p ∈ rows.map (·.1) := by
  induction rows with
  | nil => simp
  | cons q rows ih =>
    obtain ⟨k, w⟩ := q
    by_cases e : p = k
    · simp [List.lookup, e]
    · have e' : (p == k) = false := by simpa using e
      simp only [List.lookup, e', List.map_cons, List.mem_cons, e, false_or]
      exact ih
/-! #### what is known of the ways -/
def wayD : Option (List Rw) → PyData
  | none => .none
  | some ws => .dict (encK ws)
abbrev Kn := List (Pr2 × Option (List Rw))
def encN (kn : Kn) : List (PyData × PyData) := kn.map fun r => (prS r.1, wayD r.2)
theorem look_encN (p : Pr2) : ∀ kn : Kn, lookD (encN kn) (kS p) = (kn.lookup p).map wayD
  | [] => rfl
  | r :: kn => by
    have ih := look_encN p kn
    show lookD ((prS r.1, wayD r.2) :: encN kn) (kS p) = _
    unfold lookD
    rw [key_pr]
    obtain ⟨k, v⟩ := r
    by_cases e : k = p
    · subst e
      rw [if_pos rfl]
      simp [List.lookup]
    · rw [if_neg (fun z => e (kS_inj (Option.some.inj z))), ih]
      have e' : (p == k) = false := by simpa using fun z => e z.symm
      simp [List.lookup, e']
@[simp] theorem nin_encN {p : Pr2} {kn : Kn} : cmpD .NotIn (prS p) (.dict (encN kn)) = some (!(kn.lookup p).isSome) := by
  show ((keyOf (prS p)).bind fun k => if k.depth ≤ 8 then some (!(lookD (encN kn) k).isSome) else none) = _
  rw [key_pr]
  simp [kS_dep, look_encN]
@[simp] theorem ix_encN {p : Pr2} {kn : Kn} : ixD (.dict (encN kn)) (prS p) = (kn.lookup p).map wayD := by
  show ((keyOf (prS p)).bind fun k => if k.depth ≤ 8 then lookD (encN kn) k else none) = _
  rw [key_pr]
  simp [kS_dep, look_encN]
theorem storeN (p : Pr2) (o : Option (List Rw)) : ∀ kn : Kn, kn.lookup p = none → storeD (encN kn) (kS p) (wayD o) = encN (kn ++ [(p, o)])
  | [], _ => by simp [encN, storeD, kS_data]
  | r :: kn, h => by
    obtain ⟨k, v⟩ := r
    have e : ¬ k = p := fun z => by subst z; simp [List.lookup] at h
    have e' : (p == k) = false := by simpa using fun z => e z.symm
    have h' : kn.lookup p = none := by simpa [List.lookup, e'] using h
    have ih := storeN p o kn h'
    show storeD ((prS k, wayD v) :: encN kn) (kS p) (wayD o) = _
    unfold storeD
    rw [key_pr, if_neg (fun z => e (kS_inj (Option.some.inj z))), ih]
    rfl
structure KnOk (Good : Pr2 → Prop) (ways : Pr2 → Option (List Rw)) (kn : Kn) : Prop where
  nd : (kn.map (·.1)).Nodup
  gd : ∀ p ∈ kn.map (·.1), Good p
  wy : ∀ p o, kn.lookup p = some o → o = ways p
theorem kn_keys {kn : Kn} {p : Pr2} : (kn.lookup p).isSome = true ↔ p ∈ kn.map (·.1) := by
  induction kn with
  | nil => simp
  | cons q rows ih =>
    obtain ⟨k, w⟩ := q
    by_cases e : p = k
    · simp [List.lookup, e]
    · have e' : (p == k) = false := by simpa using e
      simp only [List.lookup, e', List.map_cons, List.mem_cons, e, false_or]
      exact ih
theorem kn_snoc (kn : Kn) (p q : Pr2) (o : Option (List Rw)) (h : kn.lookup p = none) : (kn ++ [(p, o)]).lookup q = if q = p then some o else kn.lookup q := by
  induction kn with
  | nil =>
    by_cases e : q = p
    · simp [List.lookup, e]
    · have e' : (q == p) = false := by simpa using e
      simp [List.lookup, e, e']
  | cons r kn ih =>
    obtain ⟨k, w⟩ := r
    have e1 : ¬ p = k := fun z => by subst z; simp [List.lookup] at h
    have e1' : (p == k) = false := by simpa using e1
    have h' : kn.lookup p = none := by simpa [List.lookup, e1'] using h
    by_cases e : q = k
    · subst e
      have : ¬ q = p := fun z => e1 z.symm
      simp [List.lookup, this]
    · have e' : (q == k) = false := by simpa using e
      rw [List.cons_append]
      simp only [List.lookup, e']
      exact ih h'
theorem KnOk.snoc {Good : Pr2 → Prop} {ways : Pr2 → Option (List Rw)} {kn : Kn} (K : KnOk Good ways kn) {p : Pr2} (hp : Good p) (h : kn.lookup p = none) : KnOk Good ways (kn ++ [(p, ways p)]) := by
  have hn : p ∉ kn.map (·.1) := fun z => by
    have := kn_keys.mpr z
    rw [h] at this
    cases this
  refine ⟨?_, ?_, fun q o e => ?_⟩
  · rw [List.map_append, List.nodup_append]
    refine ⟨K.nd, by simp, fun a ha b hb e => ?_⟩
    simp only [List.map_cons, List.map_nil, List.mem_singleton] at hb
    exact hn (hb ▸ e ▸ ha)
  · intro q hq
    rw [List.map_append] at hq
    rcases List.mem_append.mp hq with hq | hq
    · exact K.gd q hq
    · simp only [List.map_cons, List.map_nil, List.mem_singleton] at hq
      exact hq ▸ hp
  · rw [kn_snoc kn p q _ h] at e
    split at e
    · rename_i e1
      rw [e1]
      exact (Option.some.inj e).symm
    · exact K.wy q o e
theorem KnOk.len {Good : Pr2 → Prop} {ways : Pr2 → Option (List Rw)} {kn : Kn} (K : KnOk Good ways kn) {U : List Pr2} (hU : ∀ p, Good p → p ∈ U) : kn.length ≤ U.length := by
  have := nodup_len _ U K.nd fun p hp => hU p (K.gd p hp)
  simpa using this
end K26.Q
namespace K26.Q
open PySem L2
def gD (Γ : Gm) (i : Nat) : Option (List (PyData × PyData)) := match Γ[i]? with
  | some (some (.ownD kvs)) => some kvs
  | _ => none
@[simp] theorem gD_z {x : List (PyData × PyData)} {Γ : Gm} : gD (some (.ownD x) :: Γ) 0 = some x := rfl
@[simp] theorem gD_s {y : Option Sl} {Γ : Gm} {i : Nat} : gD (y :: Γ) (i + 1) = gD Γ i := rfl
def putD (kvs : List (PyData × PyData)) (x d : PyData) : Option (List (PyData × PyData)) := match x with
  | .tuple ks => (keyOf (.tuple ks)).bind fun y => if y.depth ≤ 8 ∧ kvs.length < SL then some (storeD kvs y d) else none
  | _ => none
theorem putD_pr {kvs : List (PyData × PyData)} {p : Pr2} {d : PyData} (h : kvs.length < 16777216) : putD kvs (prS p) d = some (storeD kvs (kS p) d) := by
  show ((keyOf (prS p)).bind fun y => if y.depth ≤ 8 ∧ kvs.length < SL then some (storeD kvs y d) else none) = _
  rw [key_pr, Option.bind_some, if_pos ⟨kS_dep p, h⟩]
theorem x_put' {c : Cf} {Γ : Gm} {S : Pl} {i : Nat} {k v : Tm} : evS c (.put i k v) Γ S = (evE c v Γ S).bind fun p => (evE c k Γ p.2).bind fun q => (gD Γ i).bind fun kvs => (putD kvs q.1 p.1).map fun r => .nx (Γ.set i (some (.ownD r))) q.2 := by
  rw [x_put]
  congr 1; funext p; congr 1; funext q
  unfold gD
  cases Γ[i]? with
  | none => rfl
  | some o =>
    cases o with
    | none => rfl
    | some s =>
      cases s with
      | ownD kvs =>
        simp only [Option.bind_some]
        cases q.1 with
        | tuple ks =>
          simp only [putD]
          cases keyOf (.tuple ks) with
          | none => rfl
          | some y =>
            simp only [Option.bind_some]
            split <;> rfl
        | _ => rfl
      | _ => rfl
abbrev cS (n : Nat) (g : PyData → Option PyData) : Cf := { cfN n with lf := some g }
@[simp] theorem e_callS {n : Nat} {g : PyData → Option PyData} {Γ : Gm} {S : Pl} {f : Nat} {as : Ts} : evE { cfN n with lf := some g } (.call f as) Γ S = (evs { cfN n with lf := some g } as Γ S).bind fun p => (Fn n f p.1).map fun d => (d, p.2) := by
  show ((evs { cfN n with lf := some g } as Γ S).bind fun p => ((cfN n).fn f).bind fun g => (g p.1).map fun d => (d, p.2)) = _
  congr 1; funext p; exact bind_map_fn _
@[simp] theorem e_callF {n : Nat} {g : PyData → Option PyData} {Γ : Gm} {S : Pl} {a : Tm} : evE { cfN n with lf := some g } (.callF 0 a) (some .fn :: Γ) S = (evE { cfN n with lf := some g } a (some .fn :: Γ) S).bind fun p => (g p.1).map fun d => (d, p.2) := rfl
theorem F46 (n : Nat) : Fn (n + 1) 46 [] = some (stD (0, 0, 0)) := by
  rw [Fn_run (D := d_law_start) n 46 _ rfl (by decide) rfl rfl rfl]
  simp [DefT.run, d_law_start, t_law_start, n_law_start]
  rfl
section
variable {n : Nat} {g : PyData → Option PyData} {ways : Pr2 → Option (List Rw)} {Good : Pr2 → Prop} {U : List Pr2}
def stl3 : Ss := (.cons (.set 8 (.bin .Add (.ixo 2 (.var 6)) (.ix (.ixo 3 (.var 6)) (.var 7)))) (.cons (.ife (.boo .Or (.cons (.ino true (.var 7) 2) (.cons (.cmp .Lt (.ixo 2 (.var 7)) (.var 8)) .nil))) (.cons (.put 2 (.var 7) (.var 8)) (.cons (.set 5 (.bl true)) .nil)) .nil) .nil))
def stl2 : Ss := (.cons (.ife (.ino true (.var 6) 3) (.cons (.put 3 (.var 6) (.callF 0 (.var 6))) .nil) .nil) (.cons (.ife (.isc false (.ixo 3 (.var 6)) none) (.cons (.ret .non) .nil) .nil) (.cons (.for_ (.nm 7) (.dic (.ixo 3 (.var 6))) stl3) .nil)))
def stl1 : Ss := (.cons (.set 5 (.bl false)) (.cons (.for_ (.nm 6) (.seq (.bio .list 2)) stl2) (.cons (.ife (.not (.var 5)) (.cons (.reto 2) .nil) .nil) (.cons (.ife (.cmp .Gt (.var 4) (.bin .Add (.bio .len 2) (.int 1))) (.cons (.ret .non) .nil) .nil) .nil))))
theorem loop3 (hU : ∀ p, Good p → p ∈ U) (hUl : U.length ≤ 1000) {ws : List Rw} (hws : RowsOk Good ws) {p : Pr2} {kn : Kn} (hkn : kn.lookup p = some (some ws)) (a0 a1 a4 : Option Sl) (rows : List Rw) (mv : Bool) (hr : RowsOk Good rows) (hp : p ∈ rows.map (·.1)) (j7 j8 : Option Sl) :
    ∃ k7 k8, forRun (forS (cS n g) (.nm 7) stl3) (ws.map fun r => prS r.1) [a0, a1, some (.ownD (encK rows)), some (.ownD (encN kn)), a4, some (.d (.bool mv)), some (.d (prS p)), j7, j8] [] =
      some (.nx [a0, a1, some (.ownD (encK (ws.foldl (relax p) (rows, mv)).1)), some (.ownD (encN kn)), a4, some (.d (.bool (ws.foldl (relax p) (rows, mv)).2)), some (.d (prS p)), k7, k8] []) ∧
      RowsOk Good (ws.foldl (relax p) (rows, mv)).1 ∧ p ∈ (ws.foldl (relax p) (rows, mv)).1.map (·.1) := by
  have key := for_foldm (ts := ws) (enc := fun r : Rw => prS r.1) (o := forRun (forS (cS n g) (.nm 7) stl3) (ws.map fun r => prS r.1) [a0, a1, some (.ownD (encK rows)), some (.ownD (encN kn)), a4, some (.d (.bool mv)), some (.d (prS p)), j7, j8] [])
    (R := fun (b : List Rw × Bool) Γ => RowsOk Good b.1 ∧ p ∈ b.1.map (·.1) ∧ ∃ j7 j8, Γ = [a0, a1, some (.ownD (encK b.1)), some (.ownD (encN kn)), a4, some (.d (.bool b.2)), some (.d (prS p)), j7, j8])
    (step := relax p) (rows, mv) rfl
  replace key := key (by
    rintro ⟨b, m⟩ Γ r hr ⟨hb, hpb, j7, j8, rfl⟩
    have hl : b.length ≤ U.length := hb.len hU
    have hle : (encK b).length < 16777216 := by simp [encK]; omega
    have hgr : Good r.1 := hws.gd r.1 (List.mem_map.mpr ⟨r, hr, rfl⟩)
    have hwr := lookup_of_mem hws.nd hr
    obtain ⟨vp, hvp⟩ := Option.isSome_iff_exists.mp (lookup_keys.mpr hpb)
    have hstore : p ∈ (storeR b r.1 (vp + r.2)).map (·.1) := by
      rw [keys_store]
      split
      · exact hpb
      · exact List.mem_append_left _ hpb
    cases ho : b.lookup r.1 with
    | none =>
      have e : relax p (b, m) r = (storeR b r.1 (vp + r.2), true) := by simp [relax, ho, hvp]
      rw [e]
      refine ⟨[a0, a1, some (.ownD (encK (storeR b r.1 (vp + r.2)))), some (.ownD (encN kn)), a4, some (.d (.bool true)), some (.d (prS p)), some (.d (prS r.1)), some (.d (.int (vp + r.2)))], ?_, hb.store hgr _, hstore, _, _, rfl⟩
      simp [forS, stl3, hvp, hkn, wayD, hwr, ho, -x_put, x_put', putD_pr hle, store_enc]
    | some old =>
      by_cases q : old < vp + r.2
      · have e : relax p (b, m) r = (storeR b r.1 (vp + r.2), true) := by simp [relax, ho, hvp, q]
        rw [e]
        refine ⟨[a0, a1, some (.ownD (encK (storeR b r.1 (vp + r.2)))), some (.ownD (encN kn)), a4, some (.d (.bool true)), some (.d (prS p)), some (.d (prS r.1)), some (.d (.int (vp + r.2)))], ?_, hb.store hgr _, hstore, _, _, rfl⟩
        simp [forS, stl3, hvp, hkn, wayD, hwr, ho, q, -x_put, x_put', putD_pr hle, store_enc]
      · have e : relax p (b, m) r = (b, m) := by simp [relax, ho, hvp, q]
        rw [e]
        refine ⟨[a0, a1, some (.ownD (encK b)), some (.ownD (encN kn)), a4, some (.d (.bool m)), some (.d (prS p)), some (.d (prS r.1)), some (.d (.int (vp + r.2)))], ?_, hb, hpb, _, _, rfl⟩
        simp [forS, stl3, hvp, hkn, wayD, hwr, ho, q]) ⟨hr, hp, _, _, rfl⟩
  obtain ⟨Γ', h1, h2, h3, k7, k8, rfl⟩ := key
  exact ⟨k7, k8, h1, h2, h3⟩
theorem relax_keys {p q : Pr2} (r : Rw) (b : List Rw × Bool) (h : q ∈ b.1.map (·.1)) : q ∈ (relax p b r).1.map (·.1) := by
  have hs : ∀ v, q ∈ (storeR b.1 r.1 v).map (·.1) := fun v => by
    rw [keys_store]
    split
    · exact h
    · exact List.mem_append_left _ h
  unfold relax
  split
  · exact hs _
  · split
    · exact hs _
    · exact h
theorem relax_keysL {p q : Pr2} : ∀ (ws : List Rw) (b : List Rw × Bool), q ∈ b.1.map (·.1) → q ∈ (ws.foldl (relax p) b).1.map (·.1)
  | [], b, h => h
  | w :: ws, b, h => relax_keysL ws _ (relax_keys w b h)
theorem loop2 (hw : ∀ p, Good p → g (prS p) = some (wayD (ways p))) (hG : ∀ p, Good p → ∀ ws, ways p = some ws → RowsOk Good ws) (hU : ∀ p, Good p → p ∈ U) (hUl : U.length ≤ 1000) (a1 a4 : Option Sl) (ks : List Pr2) (rows : List Rw) (mv : Bool) (hr : RowsOk Good rows) (hks : ∀ p ∈ ks, p ∈ rows.map (·.1)) (kn : Kn) (hkn : KnOk Good ways kn) (j6 j7 j8 : Option Sl) :
    match ks.foldlM (procP ways) (rows, mv) with
    | none => forRun (forS (cS n g) (.nm 6) stl2) (ks.map prS) [some .fn, a1, some (.ownD (encK rows)), some (.ownD (encN kn)), a4, some (.d (.bool mv)), j6, j7, j8] [] = some (.rt .none [])
    | some b => RowsOk Good b.1 ∧ (∀ p ∈ rows.map (·.1), p ∈ b.1.map (·.1)) ∧ ∃ kn' k6 k7 k8, KnOk Good ways kn' ∧ forRun (forS (cS n g) (.nm 6) stl2) (ks.map prS) [some .fn, a1, some (.ownD (encK rows)), some (.ownD (encN kn)), a4, some (.d (.bool mv)), j6, j7, j8] [] =
        some (.nx [some .fn, a1, some (.ownD (encK b.1)), some (.ownD (encN kn')), a4, some (.d (.bool b.2)), k6, k7, k8] []) := by
  have key := for_optm (ts := ks) (enc := prS) (o := forRun (forS (cS n g) (.nm 6) stl2) (ks.map prS) [some .fn, a1, some (.ownD (encK rows)), some (.ownD (encN kn)), a4, some (.d (.bool mv)), j6, j7, j8] [])
    (R := fun (b : List Rw × Bool) Γ => RowsOk Good b.1 ∧ (∀ p ∈ rows.map (·.1), p ∈ b.1.map (·.1)) ∧ ∃ kn j6 j7 j8, KnOk Good ways kn ∧ Γ = [some .fn, a1, some (.ownD (encK b.1)), some (.ownD (encN kn)), a4, some (.d (.bool b.2)), j6, j7, j8])
    (step := procP ways) (bad := .none) (rows, mv) rfl
  replace key := key (by
    rintro ⟨b, m⟩ Γ p hp ⟨hb, hkb, kn, j6, j7, j8, hkn, rfl⟩
    have hpb : p ∈ b.map (·.1) := hkb p (hks p hp)
    have hgp : Good p := hb.gd p hpb
    have hgw := hw p hgp
    have hkl : kn.length ≤ U.length := hkn.len hU
    have hkle : (encN kn).length < 16777216 := by simp [encN]; omega
    -- behind the first statement the ways of p are known
    obtain ⟨kn1, hkn1, hl1, hst⟩ : ∃ kn1, KnOk Good ways kn1 ∧ kn1.lookup p = some (ways p) ∧ evS (cS n g) (.ife (.ino true (.var 6) 3) (.cons (.put 3 (.var 6) (.callF 0 (.var 6))) .nil) .nil) [some .fn, a1, some (.ownD (encK b)), some (.ownD (encN kn)), a4, some (.d (.bool m)), some (.d (prS p)), j7, j8] [] =
        some (.nx [some .fn, a1, some (.ownD (encK b)), some (.ownD (encN kn1)), a4, some (.d (.bool m)), some (.d (prS p)), j7, j8] []) := by
      cases hl : kn.lookup p with
      | none =>
        refine ⟨kn ++ [(p, ways p)], hkn.snoc hgp hl, by rw [kn_snoc kn p p _ hl, if_pos rfl], ?_⟩
        simp [hl, hgw, -x_put, x_put', putD_pr hkle, storeN p (ways p) kn hl]
      | some o =>
        refine ⟨kn, hkn, by rw [hl, hkn.wy p o hl], ?_⟩
        simp [hl]
    cases hwp : ways p with
    | none =>
      have e : procP ways (b, m) p = none := by simp [procP, hwp]
      rw [e]
      rw [hwp] at hl1
      simp [forS, stl2, -x_ife, -x_put, hst]
      simp [hl1, wayD]
    | some ws =>
      have e : procP ways (b, m) p = some (ws.foldl (relax p) (b, m)) := by simp [procP, hwp]
      rw [e]
      rw [hwp] at hl1
      obtain ⟨k7, k8, h1, h2, h3⟩ := loop3 (n := n) (g := g) hU hUl (hG p hgp ws hwp) hl1 (some .fn) a1 a4 b m hb hpb j7 j8
      refine ⟨_, ?_, h2, fun q hq => relax_keysL ws (b, m) (hkb q hq), kn1, some (.d (prS p)), k7, k8, hkn1, rfl⟩
      have em : (encK ws).map (·.1) = ws.map fun r => prS r.1 := by simp [encK]
      simp [forS, stl2, -x_ife, -x_put, hst]
      simp [hl1, wayD, em, h1, -List.map_map]) ⟨hr, fun _ h => h, kn, j6, j7, j8, hkn, rfl⟩
  cases hf : ks.foldlM (procP ways) (rows, mv) with
  | none => rw [hf] at key; exact key
  | some b =>
    rw [hf] at key
    obtain ⟨Γ', h1, h2, h3, kn', k6, k7, k8, h4, rfl⟩ := key
    exact ⟨h2, h3, kn', k6, k7, k8, h4, h1⟩
theorem loop1 (hw : ∀ p, Good p → g (prS p) = some (wayD (ways p))) (hG : ∀ p, Good p → ∀ ws, ways p = some ws → RowsOk Good ws) (hU : ∀ p, Good p → p ∈ U) (hUl : U.length ≤ 1000) (a1 : Option Sl) : ∀ (k t : Nat) (rows : List Rw) (hr : RowsOk Good rows) (kn : Kn) (hkn : KnOk Good ways kn) (j4 j5 j6 j7 j8 : Option Sl),
    ∃ o, forRun (forS (cS n g) (.nm 4) stl1) ((List.range' t k).map fun i : Nat => PyData.int i) [some .fn, a1, some (.ownD (encK rows)), some (.ownD (encN kn)), j4, j5, j6, j7, j8] [] = some o ∧
      o.thn (evSs (cS n g) (.cons (.ret .non) .nil)) = some (.rt (wayD (settle ways k t rows)) [])
  | 0, t, rows, hr, kn, hkn, j4, j5, j6, j7, j8 => by
    refine ⟨_, rfl, ?_⟩
    simp [settle, wayD]
  | k + 1, t, rows, hr, kn, hkn, j4, j5, j6, j7, j8 => by
    have key := loop2 (n := n) hw hG hU hUl a1 (some (.d (.int t))) (rows.map (·.1)) rows false hr (fun _ h => h) kn hkn j6 j7 j8
    have em : (encK rows).map (·.1) = (rows.map (·.1)).map prS := by simp [encK]
    have eb : biD .list (.dict (encK rows)) = some (.list ((rows.map (·.1)).map prS)) := by rw [← em]; rfl
    rw [List.range'_succ, List.map_cons]
    unfold forRun settle roundP
    cases hf : (rows.map (·.1)).foldlM (procP ways) (rows, false) with
    | none =>
      rw [hf] at key
      refine ⟨.rt .none [], ?_, by simp [wayD]⟩
      simp [forS, stl1, eb, -List.map_map, -x_ife]
      simp [key, -List.map_map, -x_ife]
    | some b =>
      rw [hf] at key
      obtain ⟨h1, h2, kn', k6, k7, k8, h3, h4⟩ := key
      obtain ⟨f, m⟩ := b
      have hst : ∀ x, forS (cS n g) (.nm 4) stl1 (.int t) [some .fn, a1, some (.ownD (encK rows)), some (.ownD (encN kn)), j4, j5, j6, j7, j8] [] = x → x = if m = false then some (.rt (.dict (encK f)) []) else if f.length + 1 < t then some (.rt .none []) else some (.nx [some .fn, a1, some (.ownD (encK f)), some (.ownD (encN kn')), some (.d (.int t)), some (.d (.bool m)), k6, k7, k8] []) := by
        intro x hx
        rw [← hx]
        have hlen : (encK f).length = f.length := by simp [encK]
        simp [forS, stl1, eb, -List.map_map, -x_ife]
        simp [h4, -List.map_map, -x_ife]
        cases m with
        | false => simp
        | true =>
          by_cases q : f.length + 1 < t
          · have q' : (f.length : Int) + 1 < t := by omega
            simp [hlen, q, q']
          · have q' : ¬ (f.length : Int) + 1 < t := by omega
            simp [hlen, q, q']
      have hst := hst _ rfl
      cases m with
      | false =>
        simp only [if_true] at hst
        refine ⟨.rt (.dict (encK f)) [], ?_, by simp [wayD]⟩
        rw [hst]
        simp
      | true =>
        by_cases q : f.length + 1 < t
        · simp only [Bool.true_eq_false, if_false, if_pos q] at hst
          refine ⟨.rt .none [], ?_, by simp [wayD, q]⟩
          rw [hst]
          simp
        · simp only [Bool.true_eq_false, if_false, if_neg q] at hst
          obtain ⟨o, i1, i2⟩ := loop1 hw hG hU hUl a1 k (t + 1) f h1 kn' h3 (some (.d (.int t))) (some (.d (.bool true))) k6 k7 k8
          refine ⟨o, ?_, ?_⟩
          · rw [hst]
            exact i1
          · rw [i2]
            simp [q]
theorem F60 (hw : ∀ p, Good p → g (prS p) = some (wayD (ways p))) (hG : ∀ p, Good p → ∀ ws, ways p = some ws → RowsOk Good ws) (hU : ∀ p, Good p → p ∈ U) (hUl : U.length ≤ 1000) (h0 : Good ((0, 0, 0), (0, 0, 0))) :
    (d_law_settled.run { cfN (n + 1) with lf := some g } [some .fn] []).map (·.1) = some (wayD (settle ways 3000 0 [(((0, 0, 0), (0, 0, 0)), 0)])) := by
  have hr : RowsOk Good [(((0, 0, 0), (0, 0, 0)), 0)] := ⟨by simp, fun p hp => by simp at hp; exact hp ▸ h0⟩
  obtain ⟨o, h1, h2⟩ := loop1 (n := n + 1) hw hG hU hUl (some (.d (prS ((0, 0, 0), (0, 0, 0))))) 3000 0 _ hr [] ⟨by simp, fun p hp => by simp at hp, fun p o e => by simp at e⟩ none none none none none
  have hp0 : PyData.tuple [stD (0, 0, 0), stD (0, 0, 0)] = prS ((0, 0, 0), (0, 0, 0)) := rfl
  have hrg : rgD [.int 3000] = some ((List.range' 0 3000).map fun i : Nat => PyData.int i) := by
    rw [← List.range_eq_range']
    rfl
  have hd1 : ∀ (Γ : Gm) (S : Pl), Γ[1]? = some (some (.d (prS ((0, 0, 0), (0, 0, 0))))) → evE { cfN (n + 1) with lf := some g } (.dic1 (.var 1) (.int 0)) Γ S = some (.dict (encK [(((0, 0, 0), (0, 0, 0)), 0)]), S) := by
    intro Γ S h
    have hv : gv Γ 1 = some (prS ((0, 0, 0), (0, 0, 0))) := by unfold gv; rw [h]
    have hk := key_pr ((0, 0, 0), (0, 0, 0))
    rw [e_dic1, e_var, hv]
    rfl
  simp only [DefT.run, d_law_settled, t_law_settled]
  simp only [stl1, stl2, stl3] at h1
  have en : encN [] = [] := rfl
  rw [en] at h1
  simp [n_law_settled, F46 n, hp0, hd1, hrg, h1, -e_dic1, -List.map_map, -gl_cf]
  refine (congrArg (fun z : Option Out => z.bind ((Option.map fun x => x.fst) ∘ Out.val)) h2).trans ?_
  simp
end
end K26.Q
namespace K26.Q
open PySem L2
/-! ### with no gains the greatest sums settle -/
def Le (f f' : List Rw) : Prop := ∀ p y, f.lookup p = some y → ∃ y', f'.lookup p = some y' ∧ y ≤ y'
theorem Le.refl (f : List Rw) : Le f f := fun p y h => ⟨y, h, Int.le_refl _⟩
theorem Le.trans {f g h : List Rw} (a : Le f g) (b : Le g h) : Le f h := fun p y e => by
  obtain ⟨y1, h1, h2⟩ := a p y e
  obtain ⟨y2, h3, h4⟩ := b p y1 h1
  exact ⟨y2, h3, Int.le_trans h2 h4⟩
section
variable (ways : Pr2 → Option (List Rw)) (Good : Pr2 → Prop) (s0 : Pr2)
inductive Pth : List Pr2 → Pr2 → Int → Prop
  | start : Pth [s0] s0 0
  | step {vs p x ws g} : Pth vs p x → Good p → ways p = some ws → g ∈ ws → g.1 ∉ vs → Pth (g.1 :: vs) g.1 (x + g.2)
inductive Wk (f : List Rw) : List Pr2 → Pr2 → Int → Prop
  | start : (∃ y, f.lookup s0 = some y ∧ 0 ≤ y) → Wk f [s0] s0 0
  | step {vs p x ws g} : Wk f vs p x → Good p → ways p = some ws → g ∈ ws → g.1 ∉ vs → (∃ y, f.lookup g.1 = some y ∧ x + g.2 ≤ y) → Wk f (g.1 :: vs) g.1 (x + g.2)
variable {ways Good s0} {f f' : List Rw} {vs : List Pr2} {p : Pr2} {x : Int}
theorem Wk.pth (w : Wk ways Good s0 f vs p x) : Pth ways Good s0 vs p x := by
  induction w with
  | start _ => exact .start
  | step _ h1 h2 h3 h4 _ ih => exact .step ih h1 h2 h3 h4
theorem Wk.mono (l : Le f f') (w : Wk ways Good s0 f vs p x) : Wk ways Good s0 f' vs p x := by
  induction w with
  | start h =>
    obtain ⟨y, h1, h2⟩ := h
    obtain ⟨y', h3, h4⟩ := l _ _ h1
    exact .start ⟨y', h3, Int.le_trans h2 h4⟩
  | step _ h1 h2 h3 h4 h5 ih =>
    obtain ⟨y, h6, h7⟩ := h5
    obtain ⟨y', h8, h9⟩ := l _ _ h6
    exact .step ih h1 h2 h3 h4 ⟨y', h8, Int.le_trans h7 h9⟩
theorem Wk.head (w : Wk ways Good s0 f vs p x) : ∃ y, f.lookup p = some y ∧ x ≤ y := by
  cases w with
  | start h => exact h
  | step _ _ _ _ _ h => exact h
variable (hn : ∀ p, Good p → ∀ ws, ways p = some ws → ∀ g ∈ ws, g.2 ≤ 0)
include hn
theorem Wk.mem (w : Wk ways Good s0 f vs p x) : ∀ q ∈ vs, ∃ y, f.lookup q = some y ∧ x ≤ y := by
  induction w with
  | start h =>
    intro q hq
    rw [List.mem_singleton] at hq
    exact hq ▸ h
  | @step vs p x ws g w h1 h2 h3 h4 h5 ih =>
    intro q hq
    rcases List.mem_cons.mp hq with rfl | hq
    · exact h5
    · obtain ⟨y, h6, h7⟩ := ih q hq
      have := hn p h1 ws h2 g h3
      exact ⟨y, h6, by omega⟩
theorem Wk.nonpos (w : Wk ways Good s0 f vs p x) : x ≤ 0 := by
  induction w with
  | start h => exact Int.le_refl _
  | @step vs p x ws g w h1 h2 h3 h4 h5 ih =>
    have := hn p h1 ws h2 g h3
    omega
omit hn in
theorem Wk.nodup (w : Wk ways Good s0 f vs p x) : vs.Nodup := by
  induction w with
  | start h => simp
  | step w h1 h2 h3 h4 h5 ih => exact List.nodup_cons.mpr ⟨h4, ih⟩
omit hn in
theorem Pth.pos (w : Pth ways Good s0 vs p x) : 1 ≤ vs.length := by cases w <;> simp
/-- what holds within turn t -/
structure Jn (ways : Pr2 → Option (List Rw)) (Good : Pr2 → Prop) (s0 : Pr2) (t : Nat) (b : List Rw × Bool) : Prop where
  ok : RowsOk Good b.1
  wk : ∀ p v, b.1.lookup p = some v → ∃ vs, Wk ways Good s0 b.1 vs p v
  pt : ∀ vs p x, Pth ways Good s0 vs p x → vs.length ≤ t + 1 → ∃ y, b.1.lookup p = some y ∧ x ≤ y
  mv : b.2 = true → t + 2 ≤ b.1.length
omit hn in
theorem storeR_len' (rows : List Rw) (p : Pr2) (v : Int) : rows.length ≤ (storeR rows p v).length := by
  have := congrArg List.length (keys_store p v rows)
  rw [List.length_map] at this
  rw [this]
  split <;> simp
theorem relax_ok {t : Nat} {b : List Rw × Bool} (J : Jn ways Good s0 t b) {p : Pr2} (hp : Good p) {ws : List Rw} (hw : ways p = some ws) (hok : RowsOk Good ws) {g : Rw} (hg : g ∈ ws) {v : Int} (hv : b.1.lookup p = some v) :
    Jn ways Good s0 t (relax p b g) ∧ Le b.1 (relax p b g).1 ∧ (∃ y, (relax p b g).1.lookup g.1 = some y ∧ v + g.2 ≤ y) ∧ ((relax p b g).2 = false → (relax p b g).1 = b.1 ∧ b.2 = false) := by
  obtain ⟨vs, hvs⟩ := J.wk p v hv
  have main : (∀ y, b.1.lookup g.1 = some y → y < v + g.2) → Jn ways Good s0 t (storeR b.1 g.1 (v + g.2), true) ∧ Le b.1 (storeR b.1 g.1 (v + g.2)) ∧ (∃ y, (storeR b.1 g.1 (v + g.2)).lookup g.1 = some y ∧ v + g.2 ≤ y) := by
    intro hlt
    have hgv : g.1 ∉ vs := fun hm => by
      obtain ⟨y, h1, h2⟩ := hvs.mem hn g.1 hm
      have h3 := hlt y h1
      have h4 := hn p hp ws hw g hg
      omega
    have le : Le b.1 (storeR b.1 g.1 (v + g.2)) := fun q y hq => by
      rw [lookup_store]
      by_cases e : q = g.1
      · rw [if_pos e]
        exact ⟨_, rfl, by have := hlt y (e ▸ hq); omega⟩
      · rw [if_neg e]
        exact ⟨y, hq, Int.le_refl _⟩
    have hself : (storeR b.1 g.1 (v + g.2)).lookup g.1 = some (v + g.2) := by rw [lookup_store, if_pos rfl]
    have hnew : Wk ways Good s0 (storeR b.1 g.1 (v + g.2)) (g.1 :: vs) g.1 (v + g.2) := .step (hvs.mono le) hp hw hg hgv ⟨_, hself, Int.le_refl _⟩
    refine ⟨⟨J.ok.store (hok.gd g.1 (List.mem_map.mpr ⟨g, hg, rfl⟩)) _, fun q y hq => ?_, fun vs q x hq hl => ?_, fun _ => ?_⟩, le, ⟨_, hself, Int.le_refl _⟩⟩
    · have hq : (storeR b.1 g.1 (v + g.2)).lookup q = some y := hq
      rw [lookup_store] at hq
      by_cases e : q = g.1
      · rw [if_pos e] at hq
        cases hq
        rw [e]
        exact ⟨_, hnew⟩
      · rw [if_neg e] at hq
        obtain ⟨vs', h⟩ := J.wk q y hq
        exact ⟨vs', h.mono le⟩
    · obtain ⟨y, h1, h2⟩ := J.pt vs q x hq hl
      obtain ⟨y', h3, h4⟩ := le q y h1
      exact ⟨y', h3, by omega⟩
    · have hlong : t + 2 ≤ (g.1 :: vs).length := by
        refine Classical.byContradiction fun hs => ?_
        obtain ⟨y, h1, h2⟩ := J.pt _ _ _ hnew.pth (by omega)
        have := hlt y h1
        omega
      have hle := nodup_len (g.1 :: vs) ((storeR b.1 g.1 (v + g.2)).map (·.1)) hnew.nodup (fun q hq => by
        obtain ⟨y, h1, _⟩ := hnew.mem hn q hq
        exact lookup_keys.mp (by rw [h1]; rfl))
      rw [List.length_map] at hle
      exact Nat.le_trans hlong hle
  unfold relax
  rw [hv]
  simp only [Option.getD_some]
  cases ho : b.1.lookup g.1 with
  | none =>
    obtain ⟨h1, h2, h3⟩ := main (fun y hy => by rw [ho] at hy; cases hy)
    exact ⟨h1, h2, h3, fun z => by cases z⟩
  | some old =>
    by_cases q : old < v + g.2
    · simp only [if_pos q]
      obtain ⟨h1, h2, h3⟩ := main (fun y hy => by rw [ho] at hy; cases hy; exact q)
      exact ⟨h1, h2, h3, fun z => by cases z⟩
    · simp only [if_neg q]
      exact ⟨J, Le.refl _, ⟨old, ho, by omega⟩, fun z => ⟨trivial, z⟩⟩
theorem relax_all {t : Nat} {p : Pr2} (hp : Good p) {ws : List Rw} (hw : ways p = some ws) (hok : RowsOk Good ws) : ∀ (l : List Rw) (b : List Rw × Bool), (∀ g ∈ l, g ∈ ws) → Jn ways Good s0 t b → ∀ v, b.1.lookup p = some v →
    Jn ways Good s0 t (l.foldl (relax p) b) ∧ Le b.1 (l.foldl (relax p) b).1 ∧ (∀ g ∈ l, ∃ y, (l.foldl (relax p) b).1.lookup g.1 = some y ∧ v + g.2 ≤ y) ∧ ((l.foldl (relax p) b).2 = false → (l.foldl (relax p) b).1 = b.1 ∧ b.2 = false)
  | [], b, _, J, v, _ => ⟨J, Le.refl _, fun g h => (nomatch h), fun z => ⟨rfl, z⟩⟩
  | g :: l, b, hl, J, v, hv => by
    obtain ⟨h1, h2, h3, h4⟩ := relax_ok hn J hp hw hok (hl g (by simp)) hv
    obtain ⟨v', hv', hvv⟩ := h2 p v hv
    obtain ⟨i1, i2, i3, i4⟩ := relax_all hp hw hok l (relax p b g) (fun g' h => hl g' (by simp [h])) h1 v' hv'
    refine ⟨i1, h2.trans i2, fun g' hg' => ?_, fun z => ?_⟩
    · rcases List.mem_cons.mp hg' with rfl | hg'
      · obtain ⟨y, e1, e2⟩ := h3
        obtain ⟨y', e3, e4⟩ := i2 _ y e1
        exact ⟨y', e3, by omega⟩
      · obtain ⟨y, e1, e2⟩ := i3 g' hg'
        exact ⟨y, e1, by omega⟩
    · obtain ⟨e1, e2⟩ := i4 z
      obtain ⟨e3, e4⟩ := h4 e2
      exact ⟨e1.trans e3, e4⟩
variable (hs : ∀ p, Good p → ∃ ws, ways p = some ws ∧ RowsOk Good ws)
include hs
theorem round_all {t : Nat} : ∀ (ks : List Pr2) (b : List Rw × Bool), (∀ p ∈ ks, p ∈ b.1.map (·.1)) → Jn ways Good s0 t b → ∃ b', ks.foldlM (procP ways) b = some b' ∧ Jn ways Good s0 t b' ∧ Le b.1 b'.1 ∧
    (∀ p ∈ ks, ∀ ws, ways p = some ws → ∀ g ∈ ws, ∀ v, b.1.lookup p = some v → ∃ y, b'.1.lookup g.1 = some y ∧ v + g.2 ≤ y) ∧ (b'.2 = false → b'.1 = b.1 ∧ b.2 = false)
  | [], b, _, J => ⟨b, rfl, J, Le.refl _, fun p h => (nomatch h), fun z => ⟨rfl, z⟩⟩
  | p :: ks, b, hk, J => by
    have hpk := hk p (by simp)
    have hp : Good p := J.ok.gd p hpk
    obtain ⟨ws, hw, hok⟩ := hs p hp
    obtain ⟨v, hv⟩ := Option.isSome_iff_exists.mp (lookup_keys.mpr hpk)
    obtain ⟨h1, h2, h3, h4⟩ := relax_all hn hp hw hok ws b (fun _ h => h) J v hv
    have hkeys : ∀ q, q ∈ b.1.map (·.1) → q ∈ (ws.foldl (relax p) b).1.map (·.1) := fun q hq => by
      obtain ⟨y, hy⟩ := Option.isSome_iff_exists.mp (lookup_keys.mpr hq)
      obtain ⟨y', hy', _⟩ := h2 q y hy
      exact lookup_keys.mp (by rw [hy']; rfl)
    obtain ⟨b', i0, i1, i2, i3, i4⟩ := round_all ks (ws.foldl (relax p) b) (fun q hq => hkeys q (hk q (by simp [hq]))) h1
    refine ⟨b', ?_, i1, h2.trans i2, fun q hq ws' hw' g hg v' hv' => ?_, fun z => ?_⟩
    · rw [List.foldlM_cons]
      unfold procP
      rw [hw]
      exact i0
    · rcases List.mem_cons.mp hq with rfl | hq
      · rw [hw] at hw'
        cases hw'
        rw [hv] at hv'
        cases hv'
        obtain ⟨y, e1, e2⟩ := h3 g hg
        obtain ⟨y', e3, e4⟩ := i2 _ y e1
        exact ⟨y', e3, by omega⟩
      · obtain ⟨v2, e1, e2⟩ := h2 q v' hv'
        obtain ⟨y, e3, e4⟩ := i3 q hq ws' hw' g hg v2 e1
        exact ⟨y, e3, by omega⟩
    · obtain ⟨e1, e2⟩ := i4 z
      obtain ⟨e3, e4⟩ := h4 e2
      exact ⟨e1.trans e3, e4⟩
/-- what the settled sums are -/
structure Settled (ways : Pr2 → Option (List Rw)) (Good : Pr2 → Prop) (s0 : Pr2) (f : List Rw) : Prop where
  ok : RowsOk Good f
  np : ∀ p v, f.lookup p = some v → v ≤ 0
  st : f.lookup s0 = some 0
  fix : ∀ p v ws g, f.lookup p = some v → ways p = some ws → g ∈ ws → ∃ y, f.lookup g.1 = some y ∧ v + g.2 ≤ y
  wk : ∀ p v, f.lookup p = some v → ∃ vs, Wk ways Good s0 f vs p v
theorem settle_ok {U : List Pr2} (hU : ∀ p, Good p → p ∈ U) : ∀ (k t : Nat) (rows : List Rw), Jn ways Good s0 t (rows, false) → U.length < k + t → 0 < k → ∃ f, settle ways k t rows = some f ∧ Settled ways Good s0 f
  | 0, t, rows, _, _, h => absurd h (Nat.lt_irrefl _)
  | k + 1, t, rows, J, hk, _ => by
    obtain ⟨⟨f, mv⟩, h0, h1, h2, h3, h4⟩ := round_all hn hs (rows.map (·.1)) (rows, false) (fun _ h => h) J
    have hlen : f.length ≤ U.length := h1.ok.len hU
    unfold settle roundP
    rw [h0]
    simp only
    cases mv with
    | false =>
      obtain ⟨e, _⟩ := h4 rfl
      have e : f = rows := e
      subst e
      refine ⟨f, by simp, h1.ok, fun p v hv => ?_, ?_, fun p v ws g hv hw hg => ?_, h1.wk⟩
      · obtain ⟨vs, w⟩ := h1.wk p v hv
        exact w.nonpos hn
      · obtain ⟨y, e1, e2⟩ := h1.pt [s0] s0 0 .start (by simp)
        obtain ⟨vs, w⟩ := h1.wk s0 y e1
        have := w.nonpos hn
        have e : y = 0 := by omega
        rw [← e]
        exact e1
      · exact h3 p (lookup_keys.mp (by rw [hv]; rfl)) ws hw g hg v hv
    | true =>
      have hm : t + 2 ≤ f.length := h1.mv rfl
      have hnt : ¬ f.length + 1 < t := by omega
      simp only [Bool.true_eq_false, if_false, if_neg hnt]
      refine settle_ok hU k (t + 1) f ⟨h1.ok, h1.wk, fun vs p x hp hl => ?_, fun z => by cases z⟩ (by omega) (by omega)
      cases hp with
      | start =>
        obtain ⟨y, e1, e2⟩ := h1.pt [s0] s0 0 .start (by simp)
        exact ⟨y, e1, e2⟩
      | @step vs p x ws g w hp hw hg hnv =>
        simp only [List.length_cons] at hl
        obtain ⟨y, e1, e2⟩ := J.pt vs p x w (by omega)
        obtain ⟨y', e3, e4⟩ := h3 p (lookup_keys.mp (by rw [e1]; rfl)) ws hw g hg y e1
        exact ⟨y', e3, by omega⟩
theorem settle_start {U : List Pr2} (hU : ∀ p, Good p → p ∈ U) (h0 : Good s0) (k : Nat) (hk : U.length < k) : ∃ f, settle ways k 0 [(s0, 0)] = some f ∧ Settled ways Good s0 f := by
  have hl : ([(s0, 0)] : List Rw).lookup s0 = some 0 := by simp [List.lookup]
  refine settle_ok hn hs hU k 0 _ ⟨⟨by simp, fun p hp => by simp at hp; exact hp ▸ h0⟩, fun p v hv => ?_, fun vs p x hp hv => ?_, fun z => by cases z⟩ (by omega) (by omega)
  · by_cases e : p = s0
    · subst e
      have hv : ([(p, 0)] : List Rw).lookup p = some v := hv
      rw [hl] at hv
      cases hv
      exact ⟨[p], .start ⟨0, hl, Int.le_refl _⟩⟩
    · have e' : (p == s0) = false := by simpa using e
      have hv : ([(s0, 0)] : List Rw).lookup p = some v := hv
      simp [List.lookup, e'] at hv
  · cases hp with
    | start => exact ⟨0, hl, Int.le_refl _⟩
    | step w _ _ _ _ =>
      have := w.pos
      simp only [List.length_cons] at hv
      omega
end
end K26.Q
namespace K26.Q
open PySem L2
/-! ### rows in order -/
def rowLe (a b : Rw) : Bool := W.dataLe false id (rwD a) (rwD b)
def rowsL (rows : List Rw) : List Rw := rows.mergeSort rowLe
theorem rowLe_total : W.TotalLe rowLe := W.sortLe_total (PyProof.Rows.listOrd PyProof.Rows.itemOrd) false fun r : Rw => W.keyToks (rwD r)
theorem rowsL_perm (rows : List Rw) : (rowsL rows).Perm rows := List.mergeSort_perm rows rowLe
theorem toks_rw (r : Rw) : W.keyToks (rwD r) = [.inl 1, .inl 1, .inl r.1.1.1, .inl 1, .inl r.1.1.2.1, .inl 1, .inl r.1.1.2.2, .inl 0, .inl 1, .inl 1, .inl r.1.2.1, .inl 1, .inl r.1.2.2.1, .inl 1, .inl r.1.2.2.2, .inl 0, .inl 1, .inl r.2, .inl 0] := by
  simp [rwD, stD, W.keyToks, W.keyToksAll]
theorem toks_inj {r q : Rw} (h : W.keyToks (rwD r) = W.keyToks (rwD q)) : r = q := by
  rw [toks_rw, toks_rw] at h
  obtain ⟨⟨⟨a, b, c⟩, d, e, f⟩, v⟩ := r
  obtain ⟨⟨⟨a', b', c'⟩, d', e', f'⟩, v'⟩ := q
  simp only [List.cons.injEq, Sum.inl.injEq, and_true, true_and] at h
  obtain ⟨rfl, rfl, rfl, rfl, rfl, rfl, rfl⟩ := h
  rfl
theorem asc_of (l : List Rw) (hp : l.Pairwise fun a b => rowLe a b = true) (nd : (l.map (·.1)).Nodup) : ascB (l.map rwD) = true := by
  induction l with
  | nil => rfl
  | cons x l ih =>
    cases l with
    | nil => rfl
    | cons y l =>
      rw [List.map_cons, List.map_cons]
      rw [List.map_cons] at nd ih
      have nd' := List.nodup_cons.mp nd
      have hp' := List.pairwise_cons.mp hp
      have h1 : rowLe x y = true := hp'.1 y (by simp)
      have h2 : W.dataLt (rwD x) (rwD y) = true := by
        cases h : W.dataLt (rwD x) (rwD y) with
        | true => rfl
        | false =>
          have h3 : PyProof.Rows.lexLt PyProof.Rows.itemOrd (W.keyToks (rwD y)) (W.keyToks (rwD x)) = false := by
            have h1 : (!PyProof.Rows.lexLt PyProof.Rows.itemOrd (W.keyToks (rwD y)) (W.keyToks (rwD x))) = true := h1
            simpa using h1
          have h4 : W.keyToks (rwD x) = W.keyToks (rwD y) := (PyProof.Rows.listOrd PyProof.Rows.itemOrd).total (W.keyToks (rwD x)) (W.keyToks (rwD y)) h h3
          have h5 := toks_inj h4
          exact absurd (by rw [h5]; simp) nd'.1
      unfold ascB
      rw [h2, Bool.true_and]
      exact ih hp'.2 nd'.2
theorem sortOk_rows (l : List Rw) : sortOk (l.map rwD) = true := by
  unfold sortOk
  simp only [Bool.and_eq_true, List.all_eq_true, List.mem_map, forall_exists_index, and_imp, forall_apply_eq_imp_iff₂]
  refine ⟨⟨⟨fun r _ => rfl, fun r _ q _ => ?_⟩, fun r _ => ?_⟩, fun r _ => rwD_plain r⟩
  · simp [rwD, stD, W.alike, W.alikeAll]
  · simp [rwD, stD, PyData.depth, PyData.depthAll, DL]
theorem F61 (n : Nat) {Good : Pr2 → Prop} {rows : List Rw} (h : RowsOk Good rows) (hl : rows.length ≤ 1000) : Fn (n + 1) 61 [.dict (encK rows)] = some (.tuple ((rowsL rows).map rwD)) := by
  rw [Fn_run (D := d_law_rows) n 61 _ rfl (by decide) rfl rfl rfl]
  simp only [DefT.run, d_law_rows, t_law_rows]
  simp [n_law_rows]
  generalize hF : lcRun _ _ _ _ = o
  have em : (encK rows).map (·.1) = (rows.map (·.1)).map prS := by simp [encK]
  rw [em] at hF
  rw [lc_map (h := fun x => match x with
    | .tuple [a, b] => .tuple [a, b, (ixD (.dict (encK rows)) x).getD .none]
    | _ => .none) hF (fun x hx => by
    obtain ⟨p, hp, rfl⟩ := List.mem_map.mp hx
    obtain ⟨r, hr, rfl⟩ := List.mem_map.mp hp
    have hv := lookup_of_mem h.nd hr
    have hi : ixD (.dict (encK rows)) (.tuple [stD r.1.1, stD r.1.2]) = some (.int r.2) := by
      have := ix_enc (p := r.1) (rows := rows)
      rw [hv] at this
      exact this
    simp [lcS, hv]
    simp [prS, hi]) (by simp; omega)]
  have e1 : ((rows.map (·.1)).map prS).map (fun x => match x with
    | .tuple [a, b] => .tuple [a, b, (ixD (.dict (encK rows)) x).getD .none]
    | _ => .none) = rows.map rwD := by
    rw [List.map_map, List.map_map]
    refine List.map_congr_left fun r hr => ?_
    have hv := lookup_of_mem h.nd hr
    have hi : ixD (.dict (encK rows)) (.tuple [stD r.1.1, stD r.1.2]) = some (.int r.2) := by
      have := ix_enc (p := r.1) (rows := rows)
      rw [hv] at this
      exact this
    simp only [Function.comp_apply, prS, hi]
    rfl
  rw [e1]
  have hs : biD .sorted (.list (rows.map rwD)) = some (.list ((rowsL rows).map rwD)) := by
    show (if sortOk (rows.map rwD) then some (PyData.list (sortD (rows.map rwD))) else none) = _
    rw [sortOk_rows, if_pos rfl]
    unfold sortD rowsL
    rw [List.map_mergeSort (r := rowLe) (s := W.dataLe false id) (f := rwD) (l := rows) (fun a _ b _ => rfl)]
  simp [hs]
/-! ### the greatest -/
theorem maxI_spec {ns : List Int} {m : Int} : maxI ns = some m ↔ m ∈ ns ∧ ∀ x ∈ ns, x ≤ m := by
  have gen : ∀ (ns : List Int) (a : Int), (∃ y, y = ns.foldl max a ∧ (y = a ∨ y ∈ ns) ∧ a ≤ y ∧ ∀ x ∈ ns, x ≤ y) := by
    intro ns
    induction ns with
    | nil => intro a; exact ⟨a, rfl, .inl rfl, Int.le_refl _, fun _ h => nomatch h⟩
    | cons n ns ih =>
      intro a
      obtain ⟨y, h1, h2, h3, h4⟩ := ih (max a n)
      refine ⟨y, h1, ?_, by omega, fun x hx => ?_⟩
      · rcases h2 with h2 | h2
        · by_cases q : a ≤ n
          · exact .inr (by rw [h2, show max a n = n by omega]; simp)
          · exact .inl (by omega)
        · exact .inr (by simp [h2])
      · rcases List.mem_cons.mp hx with rfl | hx
        · omega
        · exact h4 x hx
  cases ns with
  | nil => simp [maxI]
  | cons n ns =>
    obtain ⟨y, h1, h2, h3, h4⟩ := gen ns n
    have e : maxI (n :: ns) = some y := by rw [h1]; rfl
    rw [e]
    constructor
    · intro h
      cases h
      refine ⟨h2.elim (fun e => by rw [e]; simp) (fun e => by simp [e]), fun x hx => ?_⟩
      rcases List.mem_cons.mp hx with rfl | hx
      · exact h3
      · exact h4 x hx
    · rintro ⟨q1, q2⟩
      have a1 : m ≤ y := by
        rcases List.mem_cons.mp q1 with rfl | q1
        · exact h3
        · exact h4 m q1
      have a2 : y ≤ m := h2.elim (fun e => by rw [e]; exact q2 n (by simp)) (fun e => q2 y (by simp [e]))
      rw [show y = m by omega]
theorem vmx_enc (rows : List Rw) : vmxD (.dict (encK rows)) = (maxI (rows.map (·.2))).map .int := by
  unfold vmxD encK
  simp only [List.map_map]
  have : (rows.map ((fun x => x.2) ∘ fun r : Rw => (prS r.1, PyData.int r.2))) = (rows.map (·.2)).map .int := by simp
  rw [this, intsD_map]
  rfl
theorem lookup_perm {l m : List Rw} (h : l.Perm m) (nd : (m.map (·.1)).Nodup) (p : Pr2) : l.lookup p = m.lookup p := by
  have nd' : (l.map (·.1)).Nodup := (h.map (·.1)).nodup_iff.mpr nd
  cases e : m.lookup p with
  | none =>
    cases e' : l.lookup p with
    | none => rfl
    | some v =>
      exfalso
      have h1 : p ∈ l.map (·.1) := lookup_keys.mp (by rw [e']; rfl)
      have h2 : p ∈ m.map (·.1) := (h.map (·.1)).mem_iff.mp h1
      have h3 := lookup_keys.mpr h2
      rw [e] at h3
      cases h3
  | some v =>
    have h2 : p ∈ m.map (·.1) := lookup_keys.mp (by rw [e]; rfl)
    obtain ⟨r, hr, rfl⟩ := List.mem_map.mp h2
    have h3 := lookup_of_mem nd hr
    rw [e] at h3
    rw [lookup_of_mem nd' (h.mem_iff.mpr hr), ← h3]
/-- the rows of settled numbers are a table -/
theorem Settled.tbl {F G : Fm} {ways : Pr2 → Option (List Rw)} {f : List Rw} (T : Settled ways (fun p => F.S p.1 ∧ G.S p.2) ((0, 0, 0), (0, 0, 0)) f) (hl : f.length ≤ 1000) : maxI (f.map (·.2)) = some 0 ∧ Tbl F G (rowsL f) 0 := by
  have hp := rowsL_perm f
  have nd : ((rowsL f).map (·.1)).Nodup := (hp.map (·.1)).nodup_iff.mpr T.ok.nd
  have hmem : ∀ x ∈ f.map (·.2), x ≤ 0 := fun x hx => by
    obtain ⟨r, hr, rfl⟩ := List.mem_map.mp hx
    exact T.np _ _ (lookup_of_mem T.ok.nd hr)
  have h0 : (0 : Int) ∈ f.map (·.2) := by
    have hst := T.st
    have h2 : ((0, 0, 0), (0, 0, 0)) ∈ f.map (·.1) := lookup_keys.mp (by rw [hst]; rfl)
    obtain ⟨r, hr, er⟩ := List.mem_map.mp h2
    have h3 := lookup_of_mem T.ok.nd hr
    rw [er, hst] at h3
    exact List.mem_map.mpr ⟨r, hr, (Option.some.inj h3).symm⟩
  have hp2 := hp.map (fun r : Rw => r.2)
  refine ⟨maxI_spec.mpr ⟨h0, hmem⟩, fun r hr => T.ok.gd r.1 (List.mem_map.mpr ⟨r, hp.mem_iff.mp hr, rfl⟩), nd, asc_of _ (List.pairwise_mergeSort (le := rowLe) (fun a b c h1 h2 => rowLe_total.trans a b c h1 h2) (fun a b => Bool.or_eq_true_iff.mpr (rowLe_total.total a b)) f) nd, ⟨0, ?_, Int.le_refl _⟩, ⟨0, maxI_spec.mpr ⟨hp2.mem_iff.mpr h0, fun x hx => hmem x (hp2.mem_iff.mp hx)⟩, Int.le_refl _⟩, ?_⟩
  · rw [lookup_perm hp T.ok.nd]
    exact T.st
  · rw [hp.length_eq]
    exact hl
end K26.Q
namespace K26.Q
open PySem L2
theorem flat_len {α β : Type} (f : α → List β) (k : Nat) : ∀ (l : List α), (∀ x ∈ l, (f x).length ≤ k) → (l.flatMap f).length ≤ l.length * k
  | [], _ => by simp
  | x :: l, h => by
    have h1 := h x (by simp)
    have h2 := flat_len f k l fun y hy => h y (by simp [hy])
    simp only [List.flatMap_cons, List.length_append, List.length_cons, Nat.succ_mul]
    omega
def statesL (F : Fm) : List St := (rng (F.car + 1)).flatMap fun a => (rng (F.row + 1)).flatMap fun b => (rng F.fees.length).map fun c => (a, b, c)
theorem row_le {F : Fm} (V : F.V) : 0 ≤ F.row ∧ F.row ≤ 2 := by
  unfold Fm.row
  cases h : F.strk with
  | none => simp
  | some k => have := V.s k h; simp only; omega
theorem statesL_mem {F : Fm} {s : St} (h : F.S s) : s ∈ statesL F := by
  obtain ⟨⟨h1, h2⟩, ⟨h3, h4⟩, h5, h6⟩ := h
  obtain ⟨a, b, c⟩ := s
  simp only [statesL, List.mem_flatMap, List.mem_map, rng_mem]
  exact ⟨a, ⟨h1, by simp only at h2; omega⟩, b, ⟨h3, by simp only at h4; omega⟩, c, ⟨h5, by simp only at h6; omega⟩, rfl⟩
theorem statesL_len {F : Fm} (V : F.V) : (statesL F).length ≤ 24 := by
  have h1 := V.c
  have h2 := row_le V
  have h3 := V.f2
  have e := flat_len (fun a => (rng (F.row + 1)).flatMap fun b => (rng F.fees.length).map fun c => (a, b, c)) 6 (rng (F.car + 1)) (fun a _ => by
    have := flat_len (fun b => (rng F.fees.length).map fun c => (a, b, c)) 2 (rng (F.row + 1)) (fun b _ => by simp [rng_len]; omega)
    rw [rng_len] at this
    have : (F.row + 1).toNat ≤ 3 := by omega
    omega)
  rw [rng_len] at e
  have : (F.car + 1).toNat ≤ 4 := by omega
  unfold statesL
  omega
def pairsL (F G : Fm) : List Pr2 := (statesL F).flatMap fun s => (statesL G).map fun t => (s, t)
theorem pairsL_mem {F G : Fm} {p : Pr2} (h : F.S p.1 ∧ G.S p.2) : p ∈ pairsL F G := by
  simp only [pairsL, List.mem_flatMap, List.mem_map]
  exact ⟨p.1, statesL_mem h.1, p.2, statesL_mem h.2, rfl⟩
theorem pairsL_len {F G : Fm} (V : F.V) (W : G.V) : (pairsL F G).length ≤ 576 := by
  have h1 := statesL_len V
  have h2 := statesL_len W
  have e := flat_len (fun s => (statesL G).map fun t => (s, t)) 24 (statesL F) (fun a _ => by simpa using h2)
  unfold pairsL
  omega
/-! ### a bill never falls -/
theorem lw_mono {b b' : Int} (h : b ≤ b') : ∀ (ts : List (Int × Int)), (∀ t ∈ ts, 0 ≤ t.2) → lw b ts ≤ lw b' ts
  | [], _ => by simp [lw]
  | [t], ht => by
    simp only [lw]
    exact Int.mul_le_mul_of_nonneg_left (by omega) (ht t (by simp))
  | t :: t' :: r, ht => by
    simp only [lw]
    have h1 : t.2 * max 0 (min t'.1 b - t.1) ≤ t.2 * max 0 (min t'.1 b' - t.1) := Int.mul_le_mul_of_nonneg_left (by omega) (ht t (by simp))
    have h2 := lw_mono h (t' :: r) (fun x hx => ht x (by simp [hx]))
    omega
theorem unc_mono {F : Fm} (V : F.V) (s : St) {u u' : Int} (h : u ≤ u') : F.unc s u ≤ F.unc s u' := by
  rw [unc_lw V, unc_lw V]
  have := lw_mono (b := max 0 (u - F.inc - s.1)) (b' := max 0 (u' - F.inc - s.1)) (by omega) F.tiers (fun t ht => (tiV_mem V.t3 t ht).1)
  omega
theorem chg_mono {F : Fm} (V : F.V) (s : St) {u u' : Int} (h : u ≤ u') : F.chg s u ≤ F.chg s u' := by
  have := unc_mono V s h
  unfold Fm.chg
  cases F.most <;> cases F.strk <;> simp only <;> (try split) <;> omega
/-- from the far use on the next state is one -/
theorem nxt_far {F : Fm} (V : F.V) {s : St} (hs : F.S s) {u : Int} (h : F.far ≤ u) : F.nxt s u = F.nxt s F.far := by
  have hl : 0 ≤ F.last.1 := by
    unfold Fm.last
    cases h : F.tiers.getLast? with
    | none => simp
    | some t => exact (tiV_last V.t3 (by simp) (by simp) t (List.mem_of_getLast? h)).1
  obtain ⟨⟨h1, h2⟩, _⟩ := hs
  have hf : F.inc + F.car + F.last.1 ≤ F.far := by
    unfold Fm.far
    cases F.strk <;> simp only <;> omega
  have hb : F.busy s u = F.busy s F.far := by
    unfold Fm.busy
    cases hk : F.strk with
    | none => rfl
    | some k =>
      have : k.1 ≤ F.far := by unfold Fm.far; rw [hk]; simp only; omega
      simp only
      rw [if_pos (by omega), if_pos this]
  unfold Fm.nxt
  rw [hb]
  have e1 : max 0 (F.inc + s.1 - u) = 0 := by omega
  have e2 : max 0 (F.inc + s.1 - F.far) = 0 := by omega
  rw [e1, e2]
/-! ### the steps -/
theorem relW_ok {Good : Pr2 → Prop} {rows : List Rw} (R : RowsOk Good rows) {q : Pr2} (hq : Good q) (w : Int) : RowsOk Good (relW rows q w) := R.store hq _
theorem relW_le (rows : List Rw) (q : Pr2) (w : Int) : Le rows (relW rows q w) := fun p y h => by
  unfold relW
  rw [lookup_store]
  by_cases e : p = q
  · rw [if_pos e]
    exact ⟨_, rfl, by rw [← e, h]; simp only [Option.getD_some]; omega⟩
  · rw [if_neg e]
    exact ⟨y, h, Int.le_refl _⟩
theorem relW_self (rows : List Rw) (q : Pr2) (w : Int) : ∃ y, (relW rows q w).lookup q = some y ∧ w ≤ y := by
  unfold relW
  rw [lookup_store, if_pos rfl]
  exact ⟨_, rfl, by omega⟩
theorem relW_np {rows : List Rw} {q : Pr2} {w : Int} (hw : w ≤ 0) (h : ∀ p y, rows.lookup p = some y → y ≤ 0) : ∀ p y, (relW rows q w).lookup p = some y → y ≤ 0 := fun p y e => by
  unfold relW at e
  rw [lookup_store] at e
  by_cases e' : p = q
  · rw [if_pos e'] at e
    cases e
    cases hq : rows.lookup q with
    | none => simp; omega
    | some y => have := h q y hq; simp; omega
  · rw [if_neg e'] at e
    exact h p y e
theorem foldW {Good : Pr2 → Prop} {key : Int → Pr2} {wt : Int → Int} : ∀ (l : List Int) (rows : List Rw), (∀ u ∈ l, Good (key u)) → (∀ u ∈ l, wt u ≤ 0) → RowsOk Good rows → (∀ p y, rows.lookup p = some y → y ≤ 0) →
    RowsOk Good (l.foldl (fun r u => relW r (key u) (wt u)) rows) ∧ (∀ p y, (l.foldl (fun r u => relW r (key u) (wt u)) rows).lookup p = some y → y ≤ 0) ∧ Le rows (l.foldl (fun r u => relW r (key u) (wt u)) rows) ∧
    ∀ u ∈ l, ∃ y, (l.foldl (fun r u => relW r (key u) (wt u)) rows).lookup (key u) = some y ∧ wt u ≤ y
  | [], rows, _, _, h1, h2 => ⟨h1, h2, Le.refl _, fun _ h => nomatch h⟩
  | u :: l, rows, hg, hw, h1, h2 => by
    obtain ⟨i1, i2, i3, i4⟩ := foldW l (relW rows (key u) (wt u)) (fun v hv => hg v (by simp [hv])) (fun v hv => hw v (by simp [hv])) (relW_ok h1 (hg u (by simp)) _) (relW_np (hw u (by simp)) h2)
    refine ⟨i1, i2, (relW_le _ _ _).trans i3, fun v hv => ?_⟩
    rcases List.mem_cons.mp hv with rfl | hv
    · obtain ⟨y, e1, e2⟩ := relW_self rows (key v) (wt v)
      obtain ⟨y', e3, e4⟩ := i3 _ y e1
      exact ⟨y', e3, by omega⟩
    · exact i4 v hv
def free : Fm := ⟨[0], [(0, 0)], 0, 0, 0, none, none⟩
theorem free_V : free.V := ⟨by decide, by decide, by decide, by decide, by decide, by simp [free, tiV], by decide, by decide, by decide, (fun x h => by cases h), fun x h => by cases h⟩
theorem free_chg (s : St) (u : Int) (h : free.S s) : free.chg s u = 0 := by
  have hf : free.fee s = 0 := by
    obtain ⟨_, _, h1, h2⟩ := h
    unfold Fm.fee
    have h2 : s.2.2 ≤ 1 - 1 := h2
    have : s.2.2 = 0 := by omega
    rw [this]
    rfl
  have : free.unc s u = 0 := by
    unfold Fm.unc
    rw [hf]
    simp [free, uncS]
  unfold Fm.chg
  rw [this]
  rfl
section
variable {G : Fm} (W : G.V) {p : Pr2} (hp : free.S p.1 ∧ G.S p.2) (mo : Option Int) (hm : ∀ m, mo = some m → 0 ≤ m)
include W hp
theorem chg_nn (u : Int) : 0 ≤ G.chg p.2 u := by
  have hl := W.l
  unfold Fm.chg
  cases h1 : G.most with
  | none => cases G.strk <;> simp only <;> (try split) <;> omega
  | some m =>
    have := W.m m h1
    cases G.strk <;> simp only <;> (try split) <;> omega
theorem gap_free (u : Int) : gap free p.1 G p.2 u = - G.chg p.2 u := by
  unfold gap
  rw [free_chg _ _ hp.1]
  omega
omit W hp in
theorem pen_lst (F : Fm) (s : St) (G : Fm) (t : St) : pen (triesL F s G t) ≤ lst (triesL F s G t) := by
  have h := uniqI_ne (ns := foundL F s G t) (by simp [foundL])
  obtain ⟨m, hm⟩ := maxI_some (foundL F s G t) (by simp [foundL])
  have hs := maxI_spec.mp hm
  have e := List.dropLast_concat_getLast h
  have e2 : triesL F s G t = (rng (max F.far G.far) ++ (uniqI (foundL F s G t)).dropLast) ++ [(uniqI (foundL F s G t)).getLast h, m + 1] := by
    unfold triesL
    rw [hm, List.append_assoc, List.append_assoc]
    congr 1
    conv => lhs; rw [← e]
    rw [List.append_assoc]
    rfl
  have h3 := hs.2 _ (uniqI_mem.mp (List.getLast_mem h))
  rw [e2]
  generalize (rng (max F.far G.far) ++ (uniqI (foundL F s G t)).dropLast) = A
  have e3 : pen (A ++ [(uniqI (foundL F s G t)).getLast h, m + 1]) = (uniqI (foundL F s G t)).getLast h := by simp [pen]
  have e4 : lst (A ++ [(uniqI (foundL F s G t)).getLast h, m + 1]) = m + 1 := by simp [lst]
  rw [e3, e4]
  omega
theorem never_ways : ∃ ws, stepsL free G mo p = some ws ∧ RowsOk (fun q : Pr2 => free.S q.1 ∧ G.S q.2) ws ∧ (∀ g ∈ ws, g.2 ≤ 0) ∧ ∀ u ∈ allowL (triesL free p.1 G p.2) mo, ∃ y, ws.lookup (free.nxt p.1 u, G.nxt p.2 u) = some y ∧ gap free p.1 G p.2 u ≤ y := by
  have hno : ¬ (mo = none ∧ gap free p.1 G p.2 (pen (triesL free p.1 G p.2)) < gap free p.1 G p.2 (lst (triesL free p.1 G p.2))) := fun h => by
    have h1 := h.2
    rw [gap_free W hp, gap_free W hp] at h1
    have := chg_mono W p.2 (pen_lst free p.1 G p.2)
    omega
  have hst : stepsL free G mo p = some ((allowL (triesL free p.1 G p.2) mo).foldl (stepW free G p) []) := by
    unfold stepsL
    rw [if_neg hno]
  obtain ⟨h1, h2, _, h4⟩ := foldW (Good := fun q : Pr2 => free.S q.1 ∧ G.S q.2) (key := fun u => (free.nxt p.1 u, G.nxt p.2 u)) (wt := fun u => gap free p.1 G p.2 u) (allowL (triesL free p.1 G p.2) mo) []
    (fun u _ => ⟨nxt_S free_V hp.1 u, nxt_S W hp.2 u⟩) (fun u _ => by rw [gap_free W hp]; have := chg_nn W hp u; omega) ⟨by simp, fun q h => by simp at h⟩ (fun q y h => by simp at h)
  exact ⟨_, hst, h1, fun g hg => h2 _ _ (lookup_of_mem h1.nd hg), h4⟩
include hm
/-- each allowed use is covered -/
theorem never_cover {ws : List Rw} (hc : ∀ u ∈ allowL (triesL free p.1 G p.2) mo, ∃ y, ws.lookup (free.nxt p.1 u, G.nxt p.2 u) = some y ∧ gap free p.1 G p.2 u ≤ y) (u : Int) (h0 : 0 ≤ u) (hu : ∀ m, mo = some m → u ≤ m) :
    ∃ y, ws.lookup (free.nxt p.1 u, G.nxt p.2 u) = some y ∧ gap free p.1 G p.2 u ≤ y := by
  have hin : ∀ v, v ∈ triesL free p.1 G p.2 → (∀ m, mo = some m → v ≤ m) → v ∈ allowL (triesL free p.1 G p.2) mo := fun v hv hvm => by
    cases mo with
    | none => exact hv
    | some m =>
      have := hvm m rfl
      simp only [allowL]
      rw [uniqI_mem, List.mem_append, List.mem_filter]
      by_cases q : v < m
      · exact .inl ⟨hv, by simpa using q⟩
      · exact .inr (by rw [List.mem_singleton]; omega)
  have hnear : ∀ v, 0 ≤ v → v < max free.far G.far → v ∈ triesL free p.1 G p.2 := fun v h1 h2 => by
    unfold triesL
    rw [List.mem_append, List.mem_append]
    exact .inl (.inl (rng_mem.mpr ⟨h1, h2⟩))
  have hfar : max free.far G.far ∈ triesL free p.1 G p.2 := by
    unfold triesL
    rw [List.mem_append, List.mem_append]
    exact .inl (.inr (uniqI_mem.mpr (by simp [foundL])))
  by_cases q : u < max free.far G.far
  · exact hc u (hin u (hnear u h0 q) hu)
  · have hf : max free.far G.far ≤ u := by omega
    obtain ⟨y, e1, e2⟩ := hc _ (hin _ hfar fun m hm => by have := hu m hm; omega)
    rw [nxt_far free_V hp.1 (by omega), nxt_far W hp.2 (by omega)] at e1
    rw [nxt_far free_V hp.1 (u := u) (by omega), nxt_far W hp.2 (u := u) (by omega)]
    refine ⟨y, e1, ?_⟩
    rw [gap_free W hp] at e2 ⊢
    have := chg_mono W p.2 hf
    omega
end
/-- the true claim "never" -/
theorem never_true {G : Fm} (W : G.V) (mo : Option Int) (hm : ∀ m, mo = some m → 0 ≤ m) {f : List Rw} (T : Settled (stepsL free G mo) (fun q => free.S q.1 ∧ G.S q.2) ((0, 0, 0), (0, 0, 0)) f) : ∀ r ∈ rowsL f, neverB free G mo (rowsL f) r.1 = true := by
  intro r hr
  have hp := rowsL_perm f
  have hr' := hp.mem_iff.mp hr
  have hgood := T.ok.gd r.1 (List.mem_map.mpr ⟨r, hr', rfl⟩)
  have hlook := lookup_of_mem T.ok.nd hr'
  obtain ⟨ws, h1, h2, h3, h4⟩ := never_ways W hgood mo
  unfold neverB
  rw [if_neg]
  · rw [List.all_eq_true]
    intro u hu
    have hf1 := far_le free_V
    have hf2 := far_le W
    have hb : 0 ≤ u ∧ ∀ m, mo = some m → u ≤ m := by
      have hturn : ∀ v ∈ turns free r.1.1 G r.1.2, max free.far G.far ≤ v := fun v hv => by
        unfold turns at hv
        rcases List.mem_cons.mp hv with rfl | hv
        · exact Int.le_refl _
        · have := (List.mem_filter.mp (uniqI_mem.mp hv)).2
          have := of_decide_eq_true this
          omega
      rcases List.mem_append.mp hu with hu | hu
      · cases mo with
        | none =>
          have := rng_mem.mp hu
          exact ⟨this.1, fun m e => by cases e⟩
        | some m =>
          have := rng_mem.mp hu
          exact ⟨this.1, fun m' e => by cases e; omega⟩
      · cases mo with
        | none =>
          have := hturn u hu
          exact ⟨by omega, fun m e => by cases e⟩
        | some m =>
          have hm0 := hm m rfl
          simp only [farL] at hu
          split at hu
          · rcases List.mem_append.mp hu with hu | hu
            · have h5 := List.mem_filter.mp hu
              have h6 := hturn u h5.1
              have h7 := of_decide_eq_true h5.2
              exact ⟨by omega, fun m' e => by cases e; omega⟩
            · rw [List.mem_singleton] at hu
              exact ⟨by omega, fun m' e => by cases e; omega⟩
          · cases hu
    obtain ⟨y, e1, e2⟩ := never_cover W hgood mo hm h4 u hb.1 hb.2
    have hk : (free.nxt r.1.1 u, G.nxt r.1.2 u) ∈ ws.map (·.1) := lookup_keys.mp (by rw [e1]; rfl)
    obtain ⟨g, hg, hge⟩ := List.mem_map.mp hk
    have hgl := lookup_of_mem h2.nd hg
    rw [hge, e1] at hgl
    have hgy : y = g.2 := Option.some.inj hgl
    obtain ⟨z, e3, e4⟩ := T.fix r.1 r.2 ws g hlook h1 hg
    rw [hge] at e3
    unfold goalB
    rw [lookup_perm hp T.ok.nd, lookup_perm hp T.ok.nd, e3, hlook]
    simp only [Option.getD_some]
    have : ¬ z < r.2 + gap free r.1.1 G r.1.2 u := by omega
    simp [this]
  · rintro ⟨_, hgr⟩
    unfold growth at hgr
    rw [gap_free W hgood, gap_free W hgood] at hgr
    have := chg_mono W r.1.2 (u := (turns free r.1.1 G r.1.2).getLast?.getD 0) (u' := (turns free r.1.1 G r.1.2).getLast?.getD 0 + 1) (by omega)
    omega
end K26.Q
namespace K26.Q
open PySem L2
/-! ### sorting ints, for the kernel -/
def insU (x : Int) : List Int → List Int
  | [] => [x]
  | y :: r => if x < y then x :: y :: r else if x = y then y :: r else y :: insU x r
def usort : List Int → List Int
  | [] => []
  | x :: r => insU x (usort r)
theorem insU_mem {x z : Int} : ∀ l : List Int, z ∈ insU x l ↔ z = x ∨ z ∈ l
  | [] => by simp [insU]
  | y :: r => by
    have ih := insU_mem (x := x) (z := z) r
    unfold insU
    split
    · simp
    · split
      · rename_i h; subst h; simp
      · simp only [List.mem_cons, ih]
        constructor
        · rintro (h | h | h)
          · exact .inr (.inl h)
          · exact .inl h
          · exact .inr (.inr h)
        · rintro (h | h | h)
          · exact .inr (.inl h)
          · exact .inl h
          · exact .inr (.inr h)
theorem usort_mem {z : Int} : ∀ l : List Int, z ∈ usort l ↔ z ∈ l
  | [] => by simp [usort]
  | x :: r => by simp only [usort, insU_mem, usort_mem r, List.mem_cons]
theorem insU_sorted {x : Int} : ∀ l : List Int, l.Pairwise (· < ·) → (insU x l).Pairwise (· < ·)
  | [], _ => by simp [insU]
  | y :: r, h => by
    have h' := List.pairwise_cons.mp h
    unfold insU
    split
    · rename_i q
      refine List.pairwise_cons.mpr ⟨fun z hz => ?_, h⟩
      rcases List.mem_cons.mp hz with rfl | hz
      · exact q
      · have := h'.1 z hz; omega
    · split
      · exact h
      · refine List.pairwise_cons.mpr ⟨fun z hz => ?_, insU_sorted r h'.2⟩
        rcases (insU_mem r).mp hz with rfl | hz
        · omega
        · exact h'.1 z hz
theorem usort_sorted : ∀ l : List Int, (usort l).Pairwise (· < ·)
  | [] => .nil
  | x :: r => insU_sorted _ (usort_sorted r)
theorem sorted_ext : ∀ (l m : List Int), l.Pairwise (· < ·) → m.Pairwise (· < ·) → (∀ z, z ∈ l ↔ z ∈ m) → l = m
  | [], [], _, _, _ => rfl
  | [], y :: m, _, _, h => by have := (h y).mpr (by simp); cases this
  | x :: l, [], _, _, h => by have := (h x).mp (by simp); cases this
  | x :: l, y :: m, hl, hm, h => by
    have hl' := List.pairwise_cons.mp hl
    have hm' := List.pairwise_cons.mp hm
    have e : x = y := by
      have h1 := (h x).mp (by simp)
      have h2 := (h y).mpr (by simp)
      rcases List.mem_cons.mp h1 with h1 | h1
      · exact h1
      · rcases List.mem_cons.mp h2 with h2 | h2
        · exact h2.symm
        · have a := hm'.1 x h1
          have b := hl'.1 y h2
          omega
    subst e
    rw [sorted_ext l m hl'.2 hm'.2 fun z => ?_]
    constructor
    · intro hz
      rcases List.mem_cons.mp ((h z).mp (by simp [hz])) with e | e
      · have := hl'.1 z hz; omega
      · exact e
    · intro hz
      rcases List.mem_cons.mp ((h z).mpr (by simp [hz])) with e | e
      · have := hm'.1 z hz; omega
      · exact e
theorem eraseDups_nd : ∀ (k : Nat) (l : List Int), l.length ≤ k → l.eraseDups.Nodup
  | _, [], _ => by simp
  | 0, _ :: _, h => by simp at h
  | k + 1, x :: l, h => by
    rw [List.eraseDups_cons]
    have hl := List.length_filter_le (fun b => !b == x) l
    refine List.nodup_cons.mpr ⟨fun hx => ?_, eraseDups_nd k _ (by simp only [List.length_cons] at h; omega)⟩
    rw [List.mem_eraseDups, List.mem_filter] at hx
    simp at hx
theorem uniqI_eq (ns : List Int) : uniqI ns = usort ns := by
  refine sorted_ext _ _ ?_ (usort_sorted ns) fun z => by rw [uniqI_mem, usort_mem]
  have h1 : (uniqI ns).Pairwise (fun a b => decide (a ≤ b) = true) := List.pairwise_mergeSort (le := fun a b : Int => decide (a ≤ b)) (fun a b c h1 h2 => decide_eq_true (Int.le_trans (of_decide_eq_true h1) (of_decide_eq_true h2))) (fun a b => by simp; omega) _
  have h2 : (uniqI ns).Nodup := (List.mergeSort_perm _ _).nodup_iff.mpr (eraseDups_nd _ ns (Nat.le_refl _))
  exact (h1.and h2).imp fun h => by
    have := of_decide_eq_true h.1
    have := h.2
    omega
/-! ### the plan of the claim "thrifty" -/
def dear6 : Fm := ⟨[3, 3], [(0, 1), (2, 1)], 1, 1, 0, none, none⟩
def s00 : Pr2 := ((0, 0, 0), (0, 0, 0))
def triesK (F : Fm) (s : St) (G : Fm) (t : St) : List Int := rng (max F.far G.far) ++ usort (foundL F s G t) ++ [(maxI (foundL F s G t)).getD 0 + 1]
def allowK (ts : List Int) : Option Int → List Int
  | none => ts
  | some m => usort (ts.filter (fun u => decide (u < m)) ++ [m])
def lossK (F : Fm) (mo : Option Int) (p : St × St) : List Rw := lossS F p (allowK (triesK F p.1 F p.2) mo) []
def turnsK (F : Fm) (s : St) (G : Fm) (t : St) : List Int := max F.far G.far :: usort ((F.bends s ++ G.bends t).filter fun u => decide (max F.far G.far < u))
def thriftK (F : Fm) (mo : Option Int) (rows : List Rw) (p : St × St) : Bool :=
  (triedL (nearL F.far mo) (farL F.far (turnsK F p.1 F p.2) mo)).all fun q => goalB rows p (F.nxt p.1 q.1, F.nxt p.2 q.2) (F.chg p.1 q.1 - F.chg p.2 q.2)
theorem lossK_eq (F : Fm) (mo : Option Int) (p : St × St) : lossL F mo p = lossK F mo p := by
  unfold lossL lossK triesL triesK
  cases mo with
  | none => simp only [allowL, allowK, uniqI_eq]
  | some m => simp only [allowL, allowK, uniqI_eq]
theorem thriftK_eq (F : Fm) (mo : Option Int) (rows : List Rw) (p : St × St) : thriftB F mo rows p = thriftK F mo rows p := by
  unfold thriftB thriftK turns turnsK
  rw [uniqI_eq]
def thrOk (mo : Option Int) : Bool := match settle (fun p => some (lossK dear6 mo p)) 3000 0 [(s00, 0)] with
  | none => false
  | some f => decide ((f.map (·.1)).Nodup) && f.all (fun r => stB dear6 (stD r.1.1) && stB dear6 (stD r.1.2)) && decide (f.length ≤ 64) && (match f.lookup s00 with | none => false | some v => decide (0 ≤ v)) && f.all fun r => thriftK dear6 mo f r.1 && decide (r.2.natAbs < 1000)
set_option maxHeartbeats 0
theorem thr_n : thrOk none = true := by decide +kernel
theorem thr_0 : thrOk (some 0) = true := by decide +kernel
theorem thr_1 : thrOk (some 1) = true := by decide +kernel
theorem thr_2 : thrOk (some 2) = true := by decide +kernel
theorem thr_3 : thrOk (some 3) = true := by decide +kernel
theorem thr_4 : thrOk (some 4) = true := by decide +kernel
theorem thr_5 : thrOk (some 5) = true := by decide +kernel
theorem thr_6 : thrOk (some 6) = true := by decide +kernel
theorem thr_7 : thrOk (some 7) = true := by decide +kernel
theorem thr_8 : thrOk (some 8) = true := by decide +kernel
set_option maxHeartbeats 4000000
theorem dear6_V : dear6.V := ⟨by decide, by decide, by decide, by decide, by decide, by simp [dear6, tiV], by decide, by decide, by decide, (fun x h => by cases h), fun x h => by cases h⟩
theorem RowsOk.tbl {F G : Fm} {f : List Rw} (R : RowsOk (fun p => F.S p.1 ∧ G.S p.2) f) {v : Int} (hv : f.lookup s00 = some v) (h0 : 0 ≤ v) (hl : f.length ≤ 1000) : ∃ m, maxI (f.map (·.2)) = some m ∧ Tbl F G (rowsL f) m := by
  have hp := rowsL_perm f
  have nd : ((rowsL f).map (·.1)).Nodup := (hp.map (·.1)).nodup_iff.mpr R.nd
  have hp2 := hp.map (fun r : Rw => r.2)
  have hne : f.map (·.2) ≠ [] := fun z => by
    have : f = [] := by simpa using z
    rw [this] at hv
    cases hv
  obtain ⟨m, hm⟩ := maxI_some _ hne
  have hs := maxI_spec.mp hm
  refine ⟨m, hm, fun r hr => R.gd r.1 (List.mem_map.mpr ⟨r, hp.mem_iff.mp hr, rfl⟩), nd, asc_of _ (List.pairwise_mergeSort (le := rowLe) (fun a b c h1 h2 => rowLe_total.trans a b c h1 h2) (fun a b => Bool.or_eq_true_iff.mpr (rowLe_total.total a b)) f) nd, ⟨v, ?_, h0⟩, ⟨m, maxI_spec.mpr ⟨hp2.mem_iff.mpr hs.1, fun x hx => hs.2 x (hp2.mem_iff.mp hx)⟩, Int.le_refl _⟩, ?_⟩
  · rw [lookup_perm hp R.nd]
    exact hv
  · rw [hp.length_eq]
    exact hl
theorem thrifty_ok {mo : Option Int} (h : thrOk mo = true) : ∃ f m, settle (fun p => some (lossL dear6 mo p)) 3000 0 [(s00, 0)] = some f ∧ RowsOk (fun p => dear6.S p.1 ∧ dear6.S p.2) f ∧ f.length ≤ 64 ∧ maxI (f.map (·.2)) = some m ∧ Tbl dear6 dear6 (rowsL f) m ∧ (∀ r ∈ rowsL f, thriftB dear6 mo (rowsL f) r.1 = true) ∧ ∀ r ∈ f, r.2.natAbs < 1000 := by
  have e : (fun p => some (lossL dear6 mo p)) = fun p => some (lossK dear6 mo p) := by funext p; rw [lossK_eq]
  unfold thrOk at h
  rw [e]
  cases hs : settle (fun p => some (lossK dear6 mo p)) 3000 0 [(s00, 0)] with
  | none => rw [hs] at h; cases h
  | some f =>
    rw [hs] at h
    simp only [Bool.and_eq_true, decide_eq_true_eq, List.all_eq_true] at h
    obtain ⟨⟨⟨⟨h1, h2⟩, h3⟩, h4⟩, h5⟩ := h
    cases hv : f.lookup s00 with
    | none => rw [hv] at h4; cases h4
    | some v =>
      rw [hv] at h4
      have R : RowsOk (fun p => dear6.S p.1 ∧ dear6.S p.2) f := by
        refine ⟨h1, fun p hp => ?_⟩
        obtain ⟨r, hr, rfl⟩ := List.mem_map.mp hp
        obtain ⟨q1, q2⟩ := h2 r hr
        obtain ⟨s, e1, e2⟩ := stB_of q1
        obtain ⟨t, e3, e4⟩ := stB_of q2
        have i1 : r.1.1 = s := by
          simp only [stD, PyData.tuple.injEq, List.cons.injEq, PyData.int.injEq, and_true] at e1
          exact Prod.ext e1.1 (Prod.ext e1.2.1 e1.2.2)
        have i2 : r.1.2 = t := by
          simp only [stD, PyData.tuple.injEq, List.cons.injEq, PyData.int.injEq, and_true] at e3
          exact Prod.ext e3.1 (Prod.ext e3.2.1 e3.2.2)
        rw [i1, i2]
        exact ⟨e2, e4⟩
      obtain ⟨m, hm, T⟩ := R.tbl hv (of_decide_eq_true h4) (by omega)
      have hp := rowsL_perm f
      refine ⟨f, m, rfl, R, h3, hm, T, fun r hr => ?_, fun r hr => (h5 r hr).2⟩
      have := (h5 r (hp.mem_iff.mp hr)).1
      rw [thriftK_eq]
      unfold thriftK at this ⊢
      rw [List.all_eq_true] at this ⊢
      intro q hq
      have := this q hq
      unfold goalB at this ⊢
      rw [lookup_perm hp R.nd, lookup_perm hp R.nd]
      exact this
theorem lossS_ok {F : Fm} {p : Pr2} (V : F.V) (hp : F.S p.1 ∧ F.S p.2) : ∀ (l : List Int) (rows : List Rw), RowsOk (fun p => F.S p.1 ∧ F.S p.2) rows → RowsOk (fun p => F.S p.1 ∧ F.S p.2) (lossS F p l rows)
  | [], rows, h => h
  | less :: r, rows, h => by
    have inner : ∀ (l : List Int) (rows : List Rw), RowsOk (fun p => F.S p.1 ∧ F.S p.2) rows → RowsOk (fun p => F.S p.1 ∧ F.S p.2) (l.foldl (lossW F p less) rows) := by
      intro l
      induction l with
      | nil => intro rows h; exact h
      | cons u l ih => intro rows h; exact ih _ (relW_ok h ⟨nxt_S V hp.1 _, nxt_S V hp.2 _⟩ _)
    exact lossS_ok V hp r _ (inner (less :: r) rows h)
theorem lossL_ok {F : Fm} {p : Pr2} (V : F.V) (hp : F.S p.1 ∧ F.S p.2) (mo : Option Int) : RowsOk (fun p => F.S p.1 ∧ F.S p.2) (lossL F mo p) := lossS_ok V hp _ _ ⟨by simp, fun p h => by simp at h⟩
end K26.Q
namespace K26.Q
open PySem L2
/-! ### drawing -/
def PI (S : Pl) : Prop := ∃ a b c : Int, S = [.int a, .int b, .int c] ∧ 0 ≤ b
@[simp] theorem bg_sb {k : Nat} {x : PyData} {Γ : Gm} {S : Pl} : bindG (.sb 0 k) x (some .pool :: Γ) S = if k < S.length then some (some .pool :: Γ, S.set k x) else none := rfl
@[simp] theorem rdO_p {Γ : Gm} {S : Pl} : rdO (some .pool :: Γ) S 0 = some (.list S) := rfl
theorem F40 (n : Nat) (k : Int) : ∃ S, Fn (n + 1) 40 [.int k] = some (.list S) ∧ PI S := by
  rw [Fn_run (D := d_law_pool) n 40 _ rfl (by decide) rfl rfl rfl]
  by_cases h1 : k < 0
  · simp [DefT.run, d_law_pool, t_law_pool, n_law_pool, h1, biD]
    exact ⟨_, _, _, rfl, by omega⟩
  · by_cases h2 : 1000000000000000000 ≤ k
    · simp [DefT.run, d_law_pool, t_law_pool, n_law_pool, h1, h2, biD]
      exact ⟨_, _, _, rfl, by omega⟩
    · simp [DefT.run, d_law_pool, t_law_pool, n_law_pool, h1, h2]
      exact ⟨_, _, _, rfl, by omega⟩
theorem P41 (n : Nat) {S : Pl} (hS : PI S) (k : Int) (h0 : 0 < k) (h1 : k < 1073741824) : ∃ r S', Pf (n + 1) 41 [.int k] S = some (.int r, S') ∧ (0 ≤ r ∧ r < k) ∧ PI S' := by
  obtain ⟨a, b, c, rfl, hb⟩ := hS
  rw [Pf_run (D := d_law_draw) n 41 _ _ rfl rfl rfl]
  have hm1 : mulB a (a % 48947 + 31019) = true := mulB_r (by omega) (by omega)
  have hm2 : mulB 79979 (c + 1) = true := mulB_l (by omega) (by omega)
  by_cases q : 0 < b
  · refine ⟨b % k, [.int ((a * (a % 48947 + 31019) + 79979 * (c + 1) + 11) % 2147483249), .int (b / k), .int (c + 1)], ?_, ⟨Int.emod_nonneg _ (by omega), Int.emod_lt_of_pos _ h0⟩, _, _, _, rfl, Int.ediv_nonneg hb (by omega)⟩
    simp [DefT.run, d_law_draw, t_law_draw, n_law_draw, hm1, hm2, q, h0, h1]
  · refine ⟨((a * (a % 48947 + 31019) + 79979 * (c + 1) + 11) % 2147483249) / 64 % k, [.int ((a * (a % 48947 + 31019) + 79979 * (c + 1) + 11) % 2147483249), .int b, .int (c + 1)], ?_, ⟨Int.emod_nonneg _ (by omega), Int.emod_lt_of_pos _ h0⟩, _, _, _, rfl, hb⟩
    simp [DefT.run, d_law_draw, t_law_draw, n_law_draw, hm1, hm2, q, h0, h1]
theorem wide_loop (n : Nat) (a1 : Option Sl) : ∀ (xs : List PyData) (f : Int) (S : Pl) (j : Option Sl), PI S → ∃ f' S' j', forRun (forS (cfN (n + 1)) (.nm 3) (.cons (.set 2 (.bin .Add (.bin .Mult (.var 2) (.bin .Pow (.int 10) (.int 6))) (.callP 41 0 (.cons (.bin .Pow (.int 10) (.int 6)) .nil)))) .nil)) xs [some .pool, a1, some (.d (.int f)), j] S =
    some (.nx [some .pool, a1, some (.d (.int f')), j'] S') ∧ PI S'
  | [], f, S, j, h => ⟨f, S, j, rfl, h⟩
  | x :: xs, f, S, j, h => by
    obtain ⟨r, S1, h1, h2, h3⟩ := P41 n h 1000000 (by omega) (by omega)
    obtain ⟨f', S', j', h4, h5⟩ := wide_loop n a1 xs (f * 1000000 + r) S1 (some (.d x)) h3
    refine ⟨f', S', j', ?_, h5⟩
    unfold forRun
    have hm : mulB f 1000000 = true := mulB_r (by omega) (by omega)
    simp [forS, hm, h1]
    exact h4
theorem P42 (n : Nat) {S : Pl} (hS : PI S) (k : Int) (h0 : 0 < k) : ∃ r S', Pf (n + 2) 42 [.int k] S = some (.int r, S') ∧ (0 ≤ r ∧ r < k) ∧ PI S' := by
  rw [Pf_run (D := d_law_wide) (n + 1) 42 _ _ rfl rfl rfl]
  have hr : rgD [.int 7] = some ((List.range 7).map fun i : Nat => PyData.int i) := rfl
  obtain ⟨f', S', j', h4, h5⟩ := wide_loop n (some (.d (.int k))) ((List.range 7).map fun i : Nat => PyData.int i) 0 S none hS
  refine ⟨f' % k, S', ?_, ⟨Int.emod_nonneg _ (by omega), Int.emod_lt_of_pos _ h0⟩, h5⟩
  simp only [DefT.run, d_law_wide, t_law_wide]
  generalize (List.range 7).map (fun i : Nat => PyData.int i) = R at hr h4
  simp [n_law_wide, hr, h4, h0]
theorem atI_in {xs : List PyData} {i : Int} (h0 : 0 ≤ i) (h1 : i < xs.length) : ∃ x, atI xs i = some x ∧ x ∈ xs := by
  obtain ⟨k, rfl⟩ : ∃ k : Nat, i = k := ⟨i.toNat, by omega⟩
  rw [atI_nat]
  have hk : k < xs.length := by omega
  exact ⟨xs[k], List.getElem?_eq_getElem hk, List.getElem_mem hk⟩
def isC (d : PyData) : Prop := ∃ i : Int, d = .int i ∧ 0 ≤ i ∧ i ≤ 1000000000
theorem P43 (n : Nat) {S : Pl} (hS : PI S) : ∃ r S', Pf (n + 3) 43 [] S = some (.int r, S') ∧ (0 ≤ r ∧ r ≤ 1000000000) ∧ PI S' := by
  rw [Pf_run (D := d_law_coins) (n + 2) 43 _ _ rfl rfl rfl]
  obtain ⟨r1, S1, h1, q1, i1⟩ := P41 (n + 1) hS 200 (by omega) (by omega)
  obtain ⟨r2, S2, h2, q2, i2⟩ := P41 (n + 1) i1 300 (by omega) (by omega)
  obtain ⟨r3, S3, h3, q3, i3⟩ := P42 n i2 1000000001 (by omega)
  obtain ⟨r4, S4, h4, q4, i4⟩ := P41 (n + 1) i3 9 (by omega) (by omega)
  have key : ∀ x ∈ [PyData.int 0, .int 1, .int 10, .int 25, .int 60, .int 100, .int (7 + r1), .int (1000000000 - r2), .int r3], isC x := by
    intro x hx
    simp only [List.mem_cons, List.not_mem_nil, or_false] at hx
    rcases hx with rfl | rfl | rfl | rfl | rfl | rfl | rfl | rfl | rfl <;> exact ⟨_, rfl, by omega, by omega⟩
  obtain ⟨x, hx, hm⟩ := atI_in (xs := [PyData.int 0, .int 1, .int 10, .int 25, .int 60, .int 100, .int (7 + r1), .int (1000000000 - r2), .int r3]) (i := r4) q4.1 (by simpa using q4.2)
  obtain ⟨i, rfl, hi⟩ := key x hm
  refine ⟨i, S4, ?_, hi, i4⟩
  simp [DefT.run, d_law_coins, t_law_coins, n_law_coins, h1, h2, h3, h4, hx]
theorem P44 (n : Nat) {S : Pl} (hS : PI S) : ∃ r S', Pf (n + 4) 44 [] S = some (.int r, S') ∧ (0 ≤ r ∧ r ≤ 1000000000) ∧ PI S' := by
  rw [Pf_run (D := d_law_price) (n + 3) 44 _ _ rfl rfl rfl]
  obtain ⟨r1, S1, h1, q1, i1⟩ := P43 n hS
  obtain ⟨r4, S4, h4, q4, i4⟩ := P41 (n + 2) i1 8 (by omega) (by omega)
  have key : ∀ x ∈ [PyData.int 0, .int 1, .int 1, .int 2, .int 5, .int 10, .int 25, .int r1], isC x := by
    intro x hx
    simp only [List.mem_cons, List.not_mem_nil, or_false] at hx
    rcases hx with rfl | rfl | rfl | rfl | rfl | rfl | rfl | rfl <;> exact ⟨_, rfl, by omega, by omega⟩
  obtain ⟨x, hx, hm⟩ := atI_in (xs := [PyData.int 0, .int 1, .int 1, .int 2, .int 5, .int 10, .int 25, .int r1]) (i := r4) q4.1 (by simpa using q4.2)
  obtain ⟨i, rfl, hi⟩ := key x hm
  refine ⟨i, S4, ?_, hi, i4⟩
  simp [DefT.run, d_law_price, t_law_price, n_law_price, h1, h4, hx]
def usC (u : Int) : Prop := 0 ≤ u ∧ u < 10000000000000000000000000000
theorem P47 (n : Nat) {S : Pl} (hS : PI S) : ∃ r S', Pf (n + 3) 47 [] S = some (.int r, S') ∧ usC r ∧ PI S' := by
  rw [Pf_run (D := d_law_use) (n + 2) 47 _ _ rfl rfl rfl]
  obtain ⟨r1, S1, h1, q1, i1⟩ := P41 (n + 1) hS 40 (by omega) (by omega)
  obtain ⟨r2, S2, h2, q2, i2⟩ := P42 n i1 100000000000000000000 (by omega)
  obtain ⟨r3, S3, h3, q3, i3⟩ := P42 n i2 10000000000000000000000000000 (by omega)
  obtain ⟨r4, S4, h4, q4, i4⟩ := P41 (n + 1) i3 4 (by omega) (by omega)
  obtain ⟨r5, S5, h5, q5, i5⟩ := P41 (n + 1) i4 8 (by omega) (by omega)
  obtain ⟨r6, S6, h6, q6, i6⟩ := P41 (n + 1) i5 30 (by omega) (by omega)
  obtain ⟨r7, S7, h7, q7, i7⟩ := P41 (n + 1) i6 3 (by omega) (by omega)
  obtain ⟨r8, S8, h8, q8, i8⟩ := P41 (n + 1) i7 4 (by omega) (by omega)
  have key : ∀ x ∈ [PyData.int (1000000000 + r1), .int r2, .int r3], ∃ i : Int, x = .int i ∧ usC i := by
    intro x hx
    simp only [List.mem_cons, List.not_mem_nil, or_false] at hx
    rcases hx with rfl | rfl | rfl <;> exact ⟨_, rfl, by unfold usC; omega⟩
  obtain ⟨x, hx, hm⟩ := atI_in (xs := [PyData.int (1000000000 + r1), .int r2, .int r3]) (i := r7) q7.1 (by simpa using q7.2)
  obtain ⟨i, rfl, hi⟩ := key x hm
  have key2 : ∀ x ∈ [PyData.int r4, .int r5, .int r6, .int i], ∃ i : Int, x = .int i ∧ usC i := by
    intro x hx
    simp only [List.mem_cons, List.not_mem_nil, or_false] at hx
    rcases hx with rfl | rfl | rfl | rfl
    · exact ⟨_, rfl, by unfold usC; omega⟩
    · exact ⟨_, rfl, by unfold usC; omega⟩
    · exact ⟨_, rfl, by unfold usC; omega⟩
    · exact ⟨_, rfl, hi⟩
  obtain ⟨y, hy, hym⟩ := atI_in (xs := [PyData.int r4, .int r5, .int r6, .int i]) (i := r8) q8.1 (by simpa using q8.2)
  obtain ⟨k, rfl, hk⟩ := key2 y hym
  refine ⟨k, S8, ?_, hk, i8⟩
  simp [DefT.run, d_law_use, t_law_use, n_law_use, h1, h2, h3, h4, h5, h6, h7, h8, hx, hy]
theorem lc_pool {f : PyData → Pl → Option (List PyData × Pl)} {Q : PyData → Prop} : ∀ (xs acc : List PyData) (S : Pl), (∀ x ∈ xs, ∀ S, PI S → ∃ y S', f x S = some ([y], S') ∧ Q y ∧ PI S') → acc.length + xs.length ≤ 16777216 → PI S →
    ∃ ys S', lcRun f xs S acc = some (acc ++ ys, S') ∧ ys.length = xs.length ∧ (∀ y ∈ ys, Q y) ∧ PI S'
  | [], acc, S, _, _, h => ⟨[], S, by simp [lcRun], rfl, (fun _ h => nomatch h), h⟩
  | x :: xs, acc, S, hf, hl, h => by
    obtain ⟨y, S1, h1, h2, h3⟩ := hf x (by simp) S h
    simp only [List.length_cons] at hl
    obtain ⟨ys, S', h4, h5, h6, h7⟩ := lc_pool xs (acc ++ [y]) S1 (fun x hx => hf x (by simp [hx])) (by simp; omega) h3
    refine ⟨y :: ys, S', ?_, by simp [h5], fun z hz => ?_, h7⟩
    · unfold lcRun
      rw [h1, show SL = 16777216 from rfl]
      simp only [Option.bind_some, List.length_singleton]
      rw [if_pos (by omega), h4]
      simp
    · rcases List.mem_cons.mp hz with rfl | hz
      · exact h2
      · exact h6 z hz
theorem ints_all {Q : Int → Prop} : ∀ (xs : List PyData), (∀ x ∈ xs, ∃ i, x = .int i ∧ Q i) → ∃ ns : List Int, xs = ns.map .int ∧ ∀ n ∈ ns, Q n
  | [], _ => ⟨[], rfl, fun _ h => nomatch h⟩
  | x :: xs, h => by
    obtain ⟨i, rfl, hi⟩ := h x (by simp)
    obtain ⟨ns, h1, h2⟩ := ints_all xs fun y hy => h y (by simp [hy])
    exact ⟨i :: ns, by rw [h1]; rfl, fun n hn => (List.mem_cons.mp hn).elim (fun e => e ▸ hi) (h2 n)⟩
theorem rg_1 {j : Int} (h0 : 0 ≤ j) (h1 : j ≤ 1000) : rgD [.int j] = some ((rng j).map .int) := by
  show (if -(2 ^ 62) ≤ j ∧ j ≤ 16777216 then some ((List.range j.toNat).map fun (i : Nat) => PyData.int i) else none) = _
  rw [if_pos (by omega)]
  unfold rng
  rw [List.map_map]
  rfl
theorem P48 (n : Nat) {S : Pl} (hS : PI S) : ∃ (us : List Int) (S' : Pl), Pf (n + 4) 48 [.int 4] S = some (.tuple (us.map .int), S') ∧ us.length ≤ 4 ∧ (∀ u ∈ us, usC u) ∧ PI S' := by
  rw [Pf_run (D := d_law_history) (n + 3) 48 _ _ rfl rfl rfl]
  obtain ⟨r1, S1, h1, q1, i1⟩ := P41 (n + 2) hS 5 (by omega) (by omega)
  have hr := rg_1 (j := r1) q1.1 (by omega)
  simp only [DefT.run, d_law_history, t_law_history]
  simp [n_law_history, h1, hr]
  generalize hF : lcRun _ _ _ _ = o
  obtain ⟨ys, S', h2, h3, h4, h5⟩ := lc_pool (f := lcS (cfN (n + 3)) [some .pool, some (.d (.int 4)), none] (.callP 47 0 .nil) (.nm 2) .no [2]) (Q := fun y => ∃ i, y = .int i ∧ usC i) ((rng r1).map .int) [] S1 (fun x _ S hS => by
    obtain ⟨r, S', h1, h2, h3⟩ := P47 n hS
    exact ⟨.int r, S', by simp [lcS, h1], ⟨r, rfl, h2⟩, h3⟩) (by simp [rng_len]; omega) i1
  rw [hF] at h2
  subst h2
  obtain ⟨us, rfl, hu⟩ := ints_all ys h4
  refine ⟨us, S', by simp, ?_, hu, h5⟩
  simp [rng_len] at h3
  omega
end K26.Q
namespace K26.Q
open PySem L2
/-! ### the form of a plan -/
theorem tiV_snoc {f p : Int} (hp : 0 ≤ p ∧ p ≤ 1000000000) (hf : f ≤ 12) : ∀ {ts : List (Int × Int)} {b : Int × Int} {t : Int × Int}, tiV b ts → ts.getLast? = some t → t.1 + 1 ≤ f → tiV b (ts ++ [(f, p)])
  | [], b, t, _, h, _ => by simp at h
  | [x], b, t, ⟨h1, h2, h3, h4, _⟩, h, hl => by
    simp at h
    subst h
    exact ⟨h1, h2, h3, h4, hl, hf, hp.1, hp.2, trivial⟩
  | x :: y :: ts, b, t, ⟨h1, h2, h3, h4, h5⟩, h, hl => by
    have h' : (y :: ts).getLast? = some t := by simpa [List.getLast?_cons_cons] using h
    exact ⟨h1, h2, h3, h4, tiV_snoc hp hf h5 h' hl⟩
def stpB : Ss := (.cons (.set 5 (.bin .Add (.bin .Add (.ix (.ix (.var 3) (.neg (.int 1))) (.int 0)) (.int 1)) (.callP 41 0 (.cons (.ix (.lst (.cons (.int 2) (.cons (.int 4) (.cons (.int 5) .nil)))) (.var 1)) .nil)))) (.cons (.ife (.cmp .Lt (.var 5) (.int 13)) (.cons (.set 6 (.lst (.cons (.ix (.ix (.var 3) (.neg (.int 1))) (.int 1)) (.cons (.callP 44 0 .nil) (.cons (.callP 44 0 .nil) .nil))))) (.cons (.set 3 (.bin .Add (.var 3) (.tup (.cons (.tup (.cons (.var 5) (.cons (.ix (.var 6) (.callP 41 0 (.cons (.int 3) .nil))) .nil))) .nil)))) .nil)) .nil) .nil))
theorem step_loop (n : Nat) (a2 : Option Sl) (xs7 : List (Option Sl)) : ∀ (xs : List PyData) (ts : List (Int × Int)) (S : Pl) (j4 j5 j6 : Option Sl), PI S → tiV (0, 0) ts → ts ≠ [] → ts.length + xs.length ≤ 4 →
    ∃ ts' S' k4 k5 k6, forRun (forS (cfN (n + 4)) (.nm 4) stpB) xs (some .pool :: some (.d (.int 0)) :: a2 :: some (.d (.tuple (ts.map tiD))) :: j4 :: j5 :: j6 :: xs7) S =
      some (.nx (some .pool :: some (.d (.int 0)) :: a2 :: some (.d (.tuple (ts'.map tiD))) :: k4 :: k5 :: k6 :: xs7) S') ∧ PI S' ∧ tiV (0, 0) ts' ∧ ts' ≠ [] ∧ ts'.length ≤ 4
  | [], ts, S, j4, j5, j6, h, hv, hn, hl => ⟨ts, S, j4, j5, j6, rfl, h, hv, hn, by simpa using hl⟩
  | x :: xs, ts, S, j4, j5, j6, h, hv, hn, hl => by
    obtain ⟨t, ht⟩ : ∃ t, ts.getLast? = some t := ⟨_, List.getLast?_eq_some_getLast hn⟩
    have htD : (ts.map tiD).getLast? = some (tiD t) := by rw [List.getLast?_map, ht]; rfl
    have htm := List.mem_of_getLast? ht
    have ht1 := tiV_last hv (by simp) (by simp) t htm
    have ht2 := tiV_mem hv t htm
    simp only [List.length_cons] at hl
    obtain ⟨r1, S1, h1, q1, i1⟩ := P41 (n + 3) h 2 (by omega) (by omega)
    by_cases q : t.1 + 1 + r1 < 13
    · obtain ⟨r2, S2, h2, q2, i2⟩ := P44 n i1
      obtain ⟨r3, S3, h3, q3, i3⟩ := P44 n i2
      obtain ⟨r4, S4, h4, q4, i4⟩ := P41 (n + 3) i3 3 (by omega) (by omega)
      have key : ∀ x ∈ [PyData.int t.2, .int r2, .int r3], isC x := by
        intro x hx
        simp only [List.mem_cons, List.not_mem_nil, or_false] at hx
        rcases hx with rfl | rfl | rfl <;> exact ⟨_, rfl, by omega, by omega⟩
      obtain ⟨y, hy, hm⟩ := atI_in (xs := [PyData.int t.2, .int r2, .int r3]) (i := r4) q4.1 (by simpa using q4.2)
      obtain ⟨i, rfl, hi⟩ := key y hm
      have hv' := tiV_snoc (f := t.1 + 1 + r1) hi (by omega) hv ht (by omega)
      obtain ⟨ts', S', k4, k5, k6, h5, h6, h7, h8, h9⟩ := step_loop n a2 xs7 xs (ts ++ [(t.1 + 1 + r1, i)]) S4 (some (.d x)) (some (.d (.int (t.1 + 1 + r1)))) (some (.d (.list [.int t.2, .int r2, .int r3]))) i4 hv' (by simp) (by simp; omega)
      refine ⟨ts', S', k4, k5, k6, ?_, h6, h7, h8, h9⟩
      have hle : ts.length + 1 ≤ 16777216 := by omega
      have hle' : ts.length ≤ 16777215 := by omega
      have e : ts.map tiD ++ [PyData.tuple [.int (t.1 + 1 + r1), .int i]] = (ts ++ [(t.1 + 1 + r1, i)]).map tiD := by simp [tiD]
      unfold forRun
      simp [forS, stpB, htD, h1, q, h2, h3, h4, hy, hle, hle', -List.getLast?_map]
      rw [e]
      exact h5
    · obtain ⟨ts', S', k4, k5, k6, h5, h6, h7, h8, h9⟩ := step_loop n a2 xs7 xs ts S1 (some (.d x)) (some (.d (.int (t.1 + 1 + r1)))) j6 i1 hv hn (by omega)
      refine ⟨ts', S', k4, k5, k6, ?_, h6, h7, h8, h9⟩
      unfold forRun
      simp [forS, stpB, htD, h1, q, -List.getLast?_map]
      exact h5
theorem minI_in {ns : List Int} (hn : ns ≠ []) : ∃ m, minI ns = some m ∧ m ∈ ns := by
  have gen : ∀ (ns : List Int) (a : Int), ns.foldl min a = a ∨ ns.foldl min a ∈ ns := by
    intro ns
    induction ns with
    | nil => intro a; exact .inl rfl
    | cons n ns ih =>
      intro a
      rcases ih (min a n) with h | h
      · rw [List.foldl_cons, h]
        by_cases q : a ≤ n
        · exact .inl (by omega)
        · exact .inr (by rw [show min a n = n by omega]; simp)
      · exact .inr (by rw [List.foldl_cons]; simp [h])
  cases ns with
  | nil => exact absurd rfl hn
  | cons n ns =>
    refine ⟨_, rfl, ?_⟩
    rcases gen ns n with h | h
    · rw [h]; simp
    · simp [h]
theorem mnq_t (ns : List Int) : biD .mnq (.tuple (ns.map .int)) = (minI ns).map .int := by
  simp [biD, intsD_map]
theorem P45 (n : Nat) {S : Pl} (hS : PI S) : ∃ (F : Fm) (S' : Pl), Pf (n + 5) 45 [.int 0] S = some (F.D, S') ∧ F.V ∧ PI S' := by
  rw [Pf_run (D := d_law_form) (n + 4) 45 _ _ rfl rfl rfl]
  simp only [DefT.run, d_law_form, t_law_form]
  -- the fees
  obtain ⟨r1, S1, h1, q1, i1⟩ := P41 (n + 3) hS 2 (by omega) (by omega)
  have hr1 := rg_1 (j := 1 + r1) (by omega) (by omega)
  obtain ⟨ys, S2, h2, h3, h4, i2⟩ := lc_pool (f := lcS (cfN (n + 4)) [some .pool, some (.d (.int 0)), none, none, none, none, none, none, none, none, none, none, none] (.callP 43 0 .nil) (.nm 4) .no [4]) (Q := isC) ((rng (1 + r1)).map .int) [] S1 (fun x _ S hS => by
    obtain ⟨r, S', h1, h2, h3⟩ := P43 (n + 1) hS
    exact ⟨.int r, S', by simp [lcS, h1], ⟨r, rfl, h2⟩, h3⟩) (by simp [rng_len]; omega) i1
  obtain ⟨fs, rfl, hfs⟩ := ints_all ys h4
  have hfl : fs.length = (1 + r1).toNat := by simpa [rng_len] using h3
  have hfn : fs ≠ [] := fun z => by rw [z] at hfl; simp at hfl; omega
  -- the tiers
  obtain ⟨p0, S3, h5, q5, i3⟩ := P44 n i2
  obtain ⟨r6, S4, h6, q6, i4⟩ := P41 (n + 3) i3 3 (by omega) (by omega)
  have hr6 := rg_1 (j := r6) q6.1 (by omega)
  obtain ⟨ts, S5, k4, k5, k6, h7, i5, hv, hne, htl⟩ := step_loop n (some (.d (.tuple (fs.map .int)))) [none, none, none, none, none, none] ((rng r6).map .int) [(0, p0)] S4 none none none i4 ⟨by simp, by simp, q5.1, q5.2, trivial⟩ (by simp) (by simp [rng_len]; omega)
  -- least, most
  obtain ⟨m, hm, hmm⟩ := minI_in hfn
  have hmr := hfs m hmm
  obtain ⟨r8, S6, h8, q8, i6⟩ := P43 (n + 1) i5
  obtain ⟨r9, S7, h9, q9, i7⟩ := P41 (n + 3) i6 4 (by omega) (by omega)
  obtain ⟨y9, e9, m9⟩ := atI_in (xs := [PyData.int 0, .int 0, .int m, .int r8]) (i := r9) q9.1 (by simpa using q9.2)
  obtain ⟨lo, rfl, hlo⟩ : isC y9 := by
    simp only [List.mem_cons, List.not_mem_nil, or_false] at m9
    rcases m9 with rfl | rfl | rfl | rfl <;> exact ⟨_, rfl, by omega, by omega⟩
  obtain ⟨f0, hf0⟩ : ∃ f0, fs[0]? = some f0 := by
    cases fs with
    | nil => exact absurd rfl hfn
    | cons a r => exact ⟨a, rfl⟩
  have hf0r := hfs f0 (List.mem_of_getElem? hf0)
  obtain ⟨r10, S8, h10, q10, i8⟩ := P41 (n + 3) i7 200 (by omega) (by omega)
  obtain ⟨r11, S9, h11, q11, i9⟩ := P43 (n + 1) i8
  -- streak
  obtain ⟨r12, S10, h12, q12, i10⟩ := P41 (n + 3) i9 3 (by omega) (by omega)
  obtain ⟨r13, S11, h13, q13, i11⟩ := P41 (n + 3) i10 2 (by omega) (by omega)
  obtain ⟨r14, S12, h14, q14, i12⟩ := P43 (n + 1) i11
  obtain ⟨r15, S13, h15, q15, i13⟩ := P41 (n + 3) i12 3 (by omega) (by omega)
  obtain ⟨r16, S14, h16, q16, i14⟩ := P41 (n + 3) i13 2 (by omega) (by omega)
  obtain ⟨r17, S15, h17, q17, i15⟩ := P41 (n + 3) i14 5 (by omega) (by omega)
  obtain ⟨y17, e17, m17⟩ := atI_in (xs := [PyData.none, .none, .int lo, .int (min 1000000000 (max lo (f0 + r10))), .int (max lo r11)]) (i := r17) q17.1 (by simpa using q17.2)
  obtain ⟨mo, rfl, hmo⟩ : ∃ mo, y17 = optI mo ∧ ∀ x, mo = some x → lo ≤ x ∧ x ≤ 1000000000 := by
    simp only [List.mem_cons, List.not_mem_nil, or_false] at m17
    rcases m17 with rfl | rfl | rfl | rfl | rfl
    · exact ⟨none, rfl, fun x e => by cases e⟩
    · exact ⟨none, rfl, fun x e => by cases e⟩
    · exact ⟨some lo, rfl, fun x e => by cases e; omega⟩
    · exact ⟨some _, rfl, fun x e => by cases e; omega⟩
    · exact ⟨some _, rfl, fun x e => by cases e; omega⟩
  obtain ⟨r18, S16, h18, q18, i16⟩ := P41 (n + 3) i15 2 (by omega) (by omega)
  obtain ⟨y18, e18, m18⟩ := atI_in (xs := [PyData.none, stD (1 + r12, 1 + r13, r14)]) (i := r18) q18.1 (by simpa using q18.2)
  obtain ⟨sk, rfl, hsk⟩ : ∃ sk, y18 = optT sk ∧ ∀ x, sk = some x → (1 ≤ x.1 ∧ x.1 ≤ 16) ∧ (1 ≤ x.2.1 ∧ x.2.1 ≤ 2) ∧ (0 ≤ x.2.2 ∧ x.2.2 ≤ 1000000000) := by
    simp only [List.mem_cons, List.not_mem_nil, or_false] at m18
    rcases m18 with rfl | rfl
    · exact ⟨none, rfl, fun x e => by cases e⟩
    · exact ⟨some _, rfl, fun x e => by cases e; simp only; omega⟩
  have hv1 : 1 ≤ fs.length := by clear hmo hsk; omega
  have hv2 : fs.length ≤ 2 := by clear hmo hsk; omega
  refine ⟨⟨fs, ts, r15, r16, lo, mo, sk⟩, S16, ?_, ⟨hv1, hv2, hfs, ?_, htl, hv, ⟨q15.1, Int.le_trans (Int.le_of_lt q15.2) (by decide)⟩, ⟨q16.1, Int.le_trans (Int.le_of_lt q16.2) (by decide)⟩, hlo, hmo, hsk⟩, i16⟩
  · have e0 : [PyData.tuple [.int 0, .int p0]] = [(0, p0)].map tiD := rfl
    have est : PyData.tuple [.int (1 + r12), .int (1 + r13), .int r14] = stD (1 + r12, 1 + r13, r14) := rfl
    simp only [stpB] at h7
    have h7' := h7
    simp only [List.map_cons, List.map_nil, tiD] at h7'
    clear hmo hsk hlo hv hv1 hv2 hf0r hmr q1 q5 q6 q8 q9 q10 q11 q12 q13 q14 q15 q16 q17 q18 hfs htl hne hfn hmm m9 m17 m18 h4 h3
    simp [n_law_form, h1, hr1]
    rw [h2]
    simp [h5, h6, hr6]
    rw [h7']
    have h0' : atI (fs.map PyData.int) 0 = some (.int f0) := by simp [hf0]
    have est' : ∀ {x}, atI [PyData.none, stD (1 + r12, 1 + r13, r14)] x = atI [PyData.none, PyData.tuple [.int (1 + r12), .int (1 + r13), .int r14]] x := fun {x} => rfl
    rw [est'] at e18
    simp [mnq_t, hm, h8, h9, e9, hf0, h10, h11, h12, h13, h14, h15, h16, h17, e17, h18, e18, setN]
    rfl
  · cases ts with
    | nil => exact absurd rfl hne
    | cons a r => simp
end K26.Q
namespace K26.Q
open PySem L2
/-! ### something of another kind -/
def Oak : PyData → PyData → Prop
  | .tuple xs, y => y = .list xs ∨ y = .tuple (xs ++ [.none]) ∨ (∃ s, y = .str s) ∨ y = .dict [] ∨ y = .tuple (xs ++ [.str "x"])
  | .int i, y => (∃ s, y = .str s) ∨ y = .tuple [.int i] ∨ y = .list [.int i] ∨ y = .dict [] ∨ ∃ b, y = .bool b
  | .none, y => y = .bool false ∨ y = .str "" ∨ y = .list [] ∨ y = .dict [] ∨ y = .str "None" ∨ y = .tuple [.str "x"]
  | .str s, y => y = .str (s ++ " ") ∨ y = .str "" ∨ y = .none ∨ y = .tuple [.str s] ∨ y = .list [.str s] ∨ y = .str ⟨s.cps.map PyProof.Rows.up1⟩ ∨ y = .int 5 ∨ y = .bool true
  | _, _ => False
/-- one place spoilt -/
inductive Sp : PyData → PyData → Prop
  | here {d d' : PyData} : Oak d d' → Sp d d'
  | tup {xs : List PyData} {i : Nat} {x x' : PyData} : xs[i]? = some x → Sp x x' → Sp (.tuple xs) (.tuple (xs.set i x'))
theorem sp_tup {xs : List PyData} {d : PyData} (h : Sp (.tuple xs) d) : isTup d = false ∨ d = .tuple (xs ++ [.none]) ∨ d = .tuple (xs ++ [.str "x"]) ∨ ∃ i x x', xs[i]? = some x ∧ Sp x x' ∧ d = .tuple (xs.set i x') := by
  cases h with
  | here o =>
    rcases o with rfl | rfl | ⟨s, rfl⟩ | rfl | rfl
    · exact .inl rfl
    · exact .inr (.inl rfl)
    · exact .inl rfl
    · exact .inl rfl
    · exact .inr (.inr (.inl rfl))
  | tup h1 h2 => exact .inr (.inr (.inr ⟨_, _, _, h1, h2, rfl⟩))
theorem sp_int {i : Int} {d : PyData} (h : Sp (.int i) d) : (∃ s, d = .str s) ∨ d = .tuple [.int i] ∨ d = .list [.int i] ∨ d = .dict [] ∨ ∃ b, d = .bool b := by
  cases h with
  | here o => exact o
theorem sp_isI {i : Int} {d : PyData} (h : Sp (.int i) d) : isI d = false := by
  rcases sp_int h with ⟨s, rfl⟩ | rfl | rfl | rfl | ⟨b, rfl⟩ <;> rfl
theorem sp_isU {i : Int} {d : PyData} (h : Sp (.int i) d) : isU d = false := by
  rcases sp_int h with ⟨s, rfl⟩ | rfl | rfl | rfl | ⟨b, rfl⟩ <;> rfl
theorem sp_inI {i lo hi : Int} {d : PyData} (h : Sp (.int i) d) : inI lo hi d = false := by
  rcases sp_int h with ⟨s, rfl⟩ | rfl | rfl | rfl | ⟨b, rfl⟩ <;> rfl
theorem sp_isN {i : Int} {d : PyData} (h : Sp (.int i) d) : isNn d = false := by
  rcases sp_int h with ⟨s, rfl⟩ | rfl | rfl | rfl | ⟨b, rfl⟩ <;> rfl
theorem sp_none {d : PyData} (h : Sp .none d) : isNn d = false ∧ isU d = false ∧ isI d = false ∧ (∀ lo hi, inI lo hi d = false) := by
  cases h with
  | here o => rcases o with rfl | rfl | rfl | rfl | rfl | rfl <;> exact ⟨rfl, rfl, rfl, fun _ _ => rfl⟩
theorem sp_opt {mo : Option Int} {d : PyData} (h : Sp (optI mo) d) : isNn d = false ∧ isU d = false ∧ ∀ lo hi, inI lo hi d = false := by
  cases mo with
  | none => exact ⟨(sp_none h).1, (sp_none h).2.1, (sp_none h).2.2.2⟩
  | some m => exact ⟨sp_isN h, sp_isU h, fun lo hi => sp_inI h⟩
theorem set_any {xs : List PyData} {i : Nat} {x x' : PyData} (h : xs[i]? = some x) : x' ∈ xs.set i x' := by
  have hi : i < xs.length := (List.getElem?_eq_some_iff.mp h).1
  exact List.mem_iff_getElem?.mpr ⟨i, by rw [List.getElem?_set_self hi]⟩
/-- a tuple of alike things -/
theorem sp_all {xs : List PyData} {chk : PyData → Bool} (hx : ∀ x ∈ xs, ∀ x', Sp x x' → chk x' = false) (hn : chk .none = false) (hs : chk (.str "x") = false) {d : PyData} (h : Sp (.tuple xs) d) :
    isTup d = false ∨ ∃ ys, d = .tuple ys ∧ (∃ y ∈ ys, chk y = false) ∧ ys.length ≤ xs.length + 1 ∧ ∀ y ∈ ys, y ∈ xs ∨ y = .none ∨ y = .str "x" ∨ ∃ x ∈ xs, Sp x y := by
  rcases sp_tup h with h | rfl | rfl | ⟨i, x, x', h1, h2, rfl⟩
  · exact .inl h
  · exact .inr ⟨_, rfl, ⟨.none, by simp, hn⟩, by simp, fun y hy => (List.mem_append.mp hy).elim .inl fun hy => .inr (.inl (List.mem_singleton.mp hy))⟩
  · exact .inr ⟨_, rfl, ⟨.str "x", by simp, hs⟩, by simp, fun y hy => (List.mem_append.mp hy).elim .inl fun hy => .inr (.inr (.inl (List.mem_singleton.mp hy)))⟩
  · have hm := List.mem_of_getElem? h1
    refine .inr ⟨_, rfl, ⟨x', set_any h1, hx x hm x' h2⟩, by simp, fun y hy => ?_⟩
    rcases List.mem_or_eq_of_mem_set hy with hy | rfl
    · exact .inl hy
    · exact .inr (.inr (.inr ⟨x, hm, h2⟩))
theorem all_false {ys : List PyData} {chk : PyData → Bool} (h : ∃ y ∈ ys, chk y = false) : ys.all chk = false := by
  obtain ⟨y, hy, e⟩ := h
  exact List.all_eq_false.mpr ⟨y, hy, by simp [e]⟩
theorem tup_f {d : PyData} (h : isTup d = false) : usB d = false ∧ prB d = false ∧ tiersB d = false ∧ formB d = false ∧ plansB d = false ∧ (∀ F, stB F d = false) ∧ prU d = false ∧ (∀ F G, rowB F G d = false) ∧ (∀ F G, tabB F G d = false) ∧ (∀ F G, pairB F G d = false) ∧ (∀ k, numsB k d = false) := by
  cases d <;> first | (cases h; done) | exact ⟨rfl, rfl, rfl, rfl, rfl, fun _ => rfl, rfl, fun _ _ => rfl, fun _ _ => rfl, fun _ _ => rfl, fun _ => rfl⟩
theorem sz_f {d : PyData} (h : isTup d = false) : szL d ∧ ∀ xs, d = .tuple xs → ∀ x ∈ xs, szL x := by
  refine ⟨fun xs e => ?_, fun xs e => ?_⟩ <;> (subst e; cases h)
theorem sp_uses {us : List Int} (hl : us.length ≤ 1000) {d : PyData} (h : Sp (.tuple (us.map .int)) d) : usB d = false ∧ szL d := by
  rcases sp_all (chk := isU) (fun x hx x' hs => by
    obtain ⟨u, _, rfl⟩ := List.mem_map.mp hx
    exact sp_isU hs) rfl rfl h with h | ⟨ys, rfl, h1, h2, _⟩
  · exact ⟨(tup_f h).1, (sz_f h).1⟩
  · refine ⟨all_false h1, fun xs e => ?_⟩
    cases e
    rw [List.length_map] at h2
    omega
theorem sp_st {F : Fm} {s : St} {d : PyData} (h : Sp (stD s) d) : stB F d = false := by
  rcases sp_tup h with h | rfl | rfl | ⟨i, x, x', h1, h2, rfl⟩
  · exact (tup_f h).2.2.2.2.2.1 F
  · rfl
  · rfl
  · match i, h1 with
    | 0, h1 => cases h1; simp [stB, sp_inI h2]
    | 1, h1 => cases h1; simp [stB, sp_inI h2]
    | 2, h1 => cases h1; simp [stB, sp_inI h2]
    | k + 3, h1 => simp at h1
theorem sp_ti {t : Int × Int} {d : PyData} (h : Sp (tiD t) d) : prU d = false ∧ (∀ b, tierS b d = none) ∧ szL d := by
  rcases sp_tup h with h | rfl | rfl | ⟨i, x, x', h1, h2, rfl⟩
  · refine ⟨(tup_f h).2.2.2.2.2.2.1, fun b => ?_, (sz_f h).1⟩
    cases d <;> first | (cases h; done) | rfl
  · exact ⟨rfl, fun _ => rfl, fun xs e => by cases e; simp⟩
  · exact ⟨rfl, fun _ => rfl, fun xs e => by cases e; simp⟩
  · match i, h1 with
    | 0, h1 =>
      cases h1
      rcases sp_int h2 with ⟨s, rfl⟩ | rfl | rfl | rfl | ⟨b, rfl⟩ <;> exact ⟨rfl, fun _ => rfl, fun xs e => by cases e; simp⟩
    | 1, h1 =>
      cases h1
      refine ⟨?_, fun b => ?_, fun xs e => by cases e; simp⟩
      · rcases sp_int h2 with ⟨s, rfl⟩ | rfl | rfl | rfl | ⟨b, rfl⟩ <;> rfl
      · have : inI 0 1000000000 x' = false := sp_inI h2
        simp [tierS, this]
    | k + 2, h1 => simp at h1
theorem sp_pairs {ps : List (Int × Int)} (hl : ps.length ≤ 1000) {d : PyData} (h : Sp (.tuple (ps.map tiD)) d) : prB d = false ∧ szL d ∧ ∀ xs, d = .tuple xs → ∀ x ∈ xs, szL x := by
  rcases sp_all (chk := prU) (fun x hx x' hs => by
    obtain ⟨u, _, rfl⟩ := List.mem_map.mp hx
    exact (sp_ti hs).1) rfl rfl h with h | ⟨ys, rfl, h1, h2, h3⟩
  · exact ⟨(tup_f h).2.1, (sz_f h).1, (sz_f h).2⟩
  · refine ⟨all_false h1, fun xs e => ?_, fun xs e x hx => ?_⟩
    · cases e
      rw [List.length_map] at h2
      omega
    · cases e
      rcases h3 x hx with h | rfl | rfl | ⟨y, hy, hs⟩
      · obtain ⟨u, _, rfl⟩ := List.mem_map.mp h
        intro xs e
        cases e
        simp
      · intro xs e; cases e
      · intro xs e; cases e
      · obtain ⟨u, _, rfl⟩ := List.mem_map.mp hy
        exact (sp_ti hs).2.2
theorem foldM_none {xs : List PyData} {x : PyData} (hx : x ∈ xs) (h : ∀ b, tierS b x = none) : ∀ b, xs.foldlM tierS b = none := by
  induction xs with
  | nil => cases hx
  | cons y xs ih =>
    intro b
    rw [List.foldlM_cons]
    rcases List.mem_cons.mp hx with rfl | hx
    · rw [h b]; rfl
    · cases tierS b y with
      | none => rfl
      | some b' => exact ih hx b'
theorem sp_tiers {ts : List (Int × Int)} {d : PyData} (h : Sp (.tuple (ts.map tiD)) d) : tiersB d = false := by
  have key : ∀ ys x, x ∈ ys → (∀ b, tierS b x = none) → tiersB (.tuple ys) = false := fun ys x hx hb => by
    simp only [tiersB]
    rw [foldM_none hx hb]
    simp
  rcases sp_tup h with h | rfl | rfl | ⟨i, x, x', h1, h2, rfl⟩
  · exact (tup_f h).2.2.1
  · exact key _ .none (by simp) fun _ => rfl
  · exact key _ (.str "x") (by simp) fun _ => rfl
  · obtain ⟨t, _, rfl⟩ := List.mem_map.mp (List.mem_of_getElem? h1)
    exact key _ x' (set_any h1) (sp_ti h2).2.1
theorem sp_strk {s : Option St} {d : PyData} (h : Sp (optT s) d) : strkB d = false := by
  cases s with
  | none =>
    cases h with
    | here o => rcases o with rfl | rfl | rfl | rfl | rfl | rfl <;> rfl
  | some s =>
    rcases sp_tup h with h | rfl | rfl | ⟨i, x, x', h1, h2, rfl⟩
    · cases h3 : d with
      | tuple xs => rw [h3] at h; cases h
      | none =>
        subst h3
        cases ‹Sp (optT (some s)) PyData.none› with
        | here o => rcases o with e | e | ⟨s, e⟩ | e | e <;> cases e
      | _ => rfl
    · rfl
    · rfl
    · match i, h1 with
      | 0, h1 => cases h1; simp [strkB, sp_inI h2]
      | 1, h1 => cases h1; simp [strkB, sp_inI h2]
      | 2, h1 => cases h1; simp [strkB, sp_inI h2]
      | k + 3, h1 => simp at h1
theorem sp_form {F : Fm} {d : PyData} (h : Sp F.D d) : formB d = false := by
  rcases sp_tup h with h | rfl | rfl | ⟨i, x, x', h1, h2, rfl⟩
  · exact (tup_f h).2.2.2.1
  · rfl
  · rfl
  · match i, h1 with
    | 0, h1 =>
      cases h1
      rcases sp_all (chk := inI 0 1000000000) (fun x hx x' hs => by
        obtain ⟨u, _, rfl⟩ := List.mem_map.mp hx
        exact sp_inI hs) rfl rfl h2 with h | ⟨ys, rfl, h3, _⟩
      · cases x' <;> first | (cases h; done) | rfl
      · simp [formB, all_false h3, -List.all_eq_false]
    | 1, h1 => cases h1; simp [formB, sp_tiers h2]
    | 2, h1 => cases h1; simp [formB, sp_inI h2]
    | 3, h1 => cases h1; simp [formB, sp_inI h2]
    | 4, h1 => cases h1; simp [formB, sp_inI h2]
    | 5, h1 =>
      cases h1
      have hm : mostB (.int F.least) x' = false := by
        obtain ⟨a, b, c⟩ := sp_opt h2
        cases x' with
        | none => cases a
        | _ => exact c F.least 1000000000
      simp [formB, hm]
    | 6, h1 => cases h1; simp [formB, sp_strk h2]
    | k + 7, h1 => simp at h1
theorem sp_row {F G : Fm} {r : Rw} {d : PyData} (h : Sp (rwD r) d) : rowB F G d = false := by
  rcases sp_tup h with h | rfl | rfl | ⟨i, x, x', h1, h2, rfl⟩
  · exact (tup_f h).2.2.2.2.2.2.2.1 F G
  · rfl
  · rfl
  · match i, h1 with
    | 0, h1 => cases h1; simp [rowB, sp_st h2]
    | 1, h1 => cases h1; simp [rowB, sp_st h2]
    | 2, h1 => cases h1; simp [rowB, sp_isI h2]
    | k + 3, h1 => simp at h1
theorem sp_tab {F G : Fm} {rows : List Rw} {d : PyData} (h : Sp (.tuple (rows.map rwD)) d) : tabB F G d = false := by
  rcases sp_all (chk := rowB F G) (fun x hx x' hs => by
    obtain ⟨u, _, rfl⟩ := List.mem_map.mp hx
    exact sp_row hs) rfl rfl h with h | ⟨ys, rfl, h1, _⟩
  · exact (tup_f h).2.2.2.2.2.2.2.2.1 F G
  · exact all_false h1
theorem sp_pr {F G : Fm} {p : Pr2} {d : PyData} (h : Sp (prS p) d) : pairB F G d = false := by
  rcases sp_tup h with h | rfl | rfl | ⟨i, x, x', h1, h2, rfl⟩
  · exact (tup_f h).2.2.2.2.2.2.2.2.2.1 F G
  · rfl
  · rfl
  · match i, h1 with
    | 0, h1 => cases h1; simp [pairB, sp_st h2]
    | 1, h1 => cases h1; simp [pairB, sp_st h2]
    | k + 2, h1 => simp at h1
theorem sp_same {F G : Fm} {ps : List Pr2} {d : PyData} (h : Sp (.tuple (ps.map prS)) d) : isTup d = false ∨ ∃ ys, d = .tuple ys ∧ ys.all (pairB F G) = false := by
  rcases sp_all (chk := pairB F G) (fun x hx x' hs => by
    obtain ⟨u, _, rfl⟩ := List.mem_map.mp hx
    exact sp_pr hs) rfl rfl h with h | ⟨ys, rfl, h1, _⟩
  · exact .inl h
  · exact .inr ⟨ys, rfl, all_false h1⟩
theorem sp_plans {Fs : List Fm} {d : PyData} (h : Sp (.tuple (Fs.map Fm.D)) d) : plansB d = false := by
  rcases sp_all (chk := formB) (fun x hx x' hs => by
    obtain ⟨u, _, rfl⟩ := List.mem_map.mp hx
    exact sp_form hs) rfl rfl h with h | ⟨ys, rfl, h1, _⟩
  · exact (tup_f h).2.2.2.2.1
  · simp only [plansB, all_false h1, Bool.and_false]
theorem sp_nums {ns : List Int} {d : PyData} (h : Sp (.tuple (ns.map .int)) d) : numsB ns.length d = false := by
  rcases sp_all (chk := isI) (fun x hx x' hs => by
    obtain ⟨u, _, rfl⟩ := List.mem_map.mp hx
    exact sp_isI hs) rfl rfl h with h | ⟨ys, rfl, h1, _⟩
  · exact (tup_f h).2.2.2.2.2.2.2.2.2.2 _
  · simp only [numsB, all_false h1, Bool.and_false]
theorem sp_numsT {k : Nat} {nss : List (List Int)} (hk : ∀ ns ∈ nss, ns.length = k) {d : PyData} (h : Sp (.tuple (nss.map fun ns => .tuple (ns.map .int))) d) : isTup d = false ∨ ∃ ys, d = .tuple ys ∧ ys.all (numsB k) = false := by
  rcases sp_all (chk := numsB k) (fun x hx x' hs => by
    obtain ⟨u, hu, rfl⟩ := List.mem_map.mp hx
    rw [← hk u hu]
    exact sp_nums hs) rfl rfl h with h | ⟨ys, rfl, h1, _⟩
  · exact .inl h
  · exact .inr ⟨ys, rfl, all_false h1⟩
end K26.Q
namespace K26.Q
open PySem L2
/-! ### the ten kinds of claims: the true one is accepted, each spoilt one is not -/
theorem F38 (n : Nat) (ds : List PyData) : Fn (n + 1) 38 ds = acceptsD (cfN n).fn ds := rfl
structure Kind (n : Nat) (claim cert : PyData) : Prop where
  good : Fn n 38 [claim, cert] = some (.bool true)
  badc : ∀ d, Sp claim d → Fn n 38 [d, cert] = some (.bool false)
  badk : ∀ d, Sp cert d → Fn n 38 [claim, d] = some (.bool false)
theorem acc_str {fn : Nat → Option (List PyData → Option PyData)} {x : Str} {parts : List PyData} {c : PyData} : acceptsD fn [.tuple (.str x :: parts), c] = match judges.lookup x with
    | none => some (.bool false)
    | some (j, many) => if parts.length + 1 = many then (fn j).bind fun g => g (parts ++ [c]) else some (.bool false) := rfl
theorem up_eq (x : Str) : (⟨x.cps.map PyProof.Rows.up1⟩ : Str) = ⟨(x.cps.toList.map PyProof.Rows.up1).toArray⟩ := by
  congr 1
  apply Array.toList_inj.mp
  simp
theorem kind_of {n : Nat} {x : Str} {j many : Nat} {parts : List PyData} {cert : PyData} (hj : judges.lookup x = some (j, many)) (hp : parts.length + 1 = many)
    (h1 : judges.lookup (x ++ " ") = none) (h2 : judges.lookup ("" : Str) = none) (h3 : judges.lookup (⟨(x.cps.toList.map PyProof.Rows.up1).toArray⟩ : Str) = none)
    (good : Fn n j (parts ++ [cert]) = some (.bool true)) (badp : ∀ i p p', parts[i]? = some p → Sp p p' → Fn n j (parts.set i p' ++ [cert]) = some (.bool false)) (badk : ∀ d, Sp cert d → Fn n j (parts ++ [d]) = some (.bool false)) : Kind (n + 1) (.tuple (.str x :: parts)) cert := by
  have base : ∀ ps c, ps.length + 1 = many → Fn (n + 1) 38 [.tuple (.str x :: ps), c] = Fn n j (ps ++ [c]) := fun ps c hl => by
    rw [F38, acc_str, hj]
    simp only
    rw [if_pos hl]
    rfl
  have other : ∀ ps c, ps.length + 1 ≠ many → Fn (n + 1) 38 [.tuple (.str x :: ps), c] = some (.bool false) := fun ps c hl => by
    rw [F38, acc_str, hj]
    simp only
    rw [if_neg hl]
  have name : ∀ (y : Str) ps c, judges.lookup y = none → Fn (n + 1) 38 [.tuple (.str y :: ps), c] = some (.bool false) := fun y ps c hl => by
    rw [F38, acc_str, hl]
  refine ⟨(base _ _ hp).trans good, fun d hd => ?_, fun d hd => (base _ _ hp).trans (badk d hd)⟩
  rcases sp_tup hd with h | rfl | rfl | ⟨i, a, a', e1, e2, rfl⟩
  · rw [F38]
    cases d <;> first | (cases h; done) | rfl
  · exact other _ _ (by simp; omega)
  · exact other _ _ (by simp; omega)
  · cases i with
    | zero =>
      cases e1
      rw [List.set_cons_zero]
      cases e2 with
      | here o =>
        rcases o with rfl | rfl | rfl | rfl | rfl | rfl | rfl | rfl
        · exact name _ _ _ h1
        · exact name _ _ _ h2
        · rfl
        · rfl
        · rfl
        · rw [up_eq]; exact name _ _ _ h3
        · rfl
        · rfl
    | succ k =>
      rw [List.set_cons_succ]
      exact (base _ _ (by simpa using hp)).trans (badp k a a' (by simpa using e1) e2)
/-! #### walks -/
theorem walk_from (F : Fm) : ∀ (us : List Int) (b : Int × St), us.foldl (fun b u => (b.1 + F.chg b.2 u, F.nxt b.2 u)) b = (b.1 + (F.walk us b.2).1, (F.walk us b.2).2)
  | [], b => by simp [Fm.walk]
  | u :: us, b => by
    have h1 := walk_from F us (b.1 + F.chg b.2 u, F.nxt b.2 u)
    have h2 := walk_from F us (0 + F.chg b.2 u, F.nxt b.2 u)
    rw [List.foldl_cons, h1]
    unfold Fm.walk at h2 ⊢
    rw [List.foldl_cons, h2]
    refine Prod.ext ?_ rfl
    simp only
    omega
theorem walk_app (F : Fm) (us vs : List Int) (s : St) : F.walk (us ++ vs) s = ((F.walk us s).1 + (F.walk vs (F.walk us s).2).1, (F.walk vs (F.walk us s).2).2) := by
  unfold Fm.walk
  rw [List.foldl_append, walk_from F vs]
  rfl
def dear : Fm := ⟨[3, 3], [(0, 1), (2, 1)], 1, 1, 0, none, some (2, 1, 1)⟩
def busyF : Fm := ⟨[100], [(0, 10)], 0, 0, 0, some 130, some (5, 1, 30)⟩
theorem dear_V : dear.V := ⟨by decide, by decide, by decide, by decide, by decide, by simp [dear, tiV], by decide, by decide, by decide, (fun x h => by cases h), fun x h => by cases h; decide⟩
theorem busy_V : busyF.V := ⟨by decide, by decide, by decide, by decide, by decide, by simp [busyF, tiV], by decide, by decide, by decide, (fun x h => by cases h; decide), fun x h => by cases h; decide⟩
theorem loop_all : ∀ s ∈ statesL dear, (dear.walk [1, 2] (dear.walk [0, 2] s).2).2 = (dear.walk [0, 2] s).2 ∧ 0 < (dear.walk [1, 2] (dear.walk [0, 2] s).2).1 := by decide +kernel
theorem loop_free : ∀ s ∈ statesL free, (free.walk [1, 2] (free.walk [0, 2] s).2).2 = (free.walk [0, 2] s).2 ∧ (free.walk [1, 2] (free.walk [0, 2] s).2).1 = 0 := by decide +kernel
theorem apart_all : ∀ s ∈ statesL dear, ∀ t ∈ statesL free, ¬ gap dear s free t 9 = 0 := by decide +kernel
theorem dear_chg {s : St} (hs : dear.S s) {u : Int} (hu : 4 ≤ u) : dear.chg s u = (if s.2.1 = 1 then 2 else 3) + (u - 1 - s.1) := by
  obtain ⟨⟨h1, h2⟩, ⟨h3, h4⟩, h5, h6⟩ := hs
  have h2 : s.1 ≤ 1 := h2
  have h4 : s.2.1 ≤ 1 := h4
  have h6 : s.2.2 ≤ 2 - 1 := h6
  have hf : dear.fee s = 3 := by
    unfold Fm.fee
    have : s.2.2.toNat = 0 ∨ s.2.2.toNat = 1 := by omega
    rcases this with e | e <;> rw [e] <;> rfl
  have hu' : dear.unc s u = 3 + (u - 1 - s.1) := by
    unfold Fm.unc
    rw [hf]
    simp only [dear, List.foldl_cons, List.foldl_nil, uncS]
    omega
  unfold Fm.chg
  rw [hu']
  simp only [dear]
  split <;> omega
theorem ray_grow {s t : St} (hs : dear.S s) (ht : free.S t) {u : Int} (hu : 4 ≤ u) : 0 < growth dear s free t u := by
  unfold growth gap
  rw [free_chg _ _ ht, free_chg _ _ ht, dear_chg hs hu, dear_chg hs (by omega)]
  omega
section
variable (n : Nat)
theorem K_ahead {F G : Fm} (V : F.V) (W : G.V) {us : List Int} (hu : ∀ u ∈ us, 0 ≤ u) (hl : us.length ≤ 1000) : Kind (n + 6) (.tuple [.str "ahead", F.D, G.D, .tuple (us.map .int), .int ((F.walk us (0, 0, 0)).1 - (G.walk us (0, 0, 0)).1)]) .none := by
  refine kind_of (n := n + 5) (j := 26) (many := 5) (by decide) rfl (by decide) (by decide) (by decide) ?_ (fun i p p' hi hs => ?_) (fun d hd => ?_)
  · refine (F26 n V W hu (by omega) _).trans ?_
    simp
  · have hsz : szL (.tuple (us.map .int)) := fun xs e => by cases e; simp; omega
    match i, hi with
    | 0, hi => cases hi; exact F26_bad n hsz (by simp [sp_form hs])
    | 1, hi => cases hi; exact F26_bad n hsz (by simp [sp_form hs])
    | 2, hi => cases hi; exact F26_bad n (sp_uses hl hs).2 (by simp [(sp_uses hl hs).1])
    | 3, hi => cases hi; exact F26_bad n hsz (by simp [sp_isI hs])
    | k + 4, hi => simp at hi
  · refine (F26 n V W hu (by omega) _).trans ?_
    simp [(sp_none hd).1]
theorem K_loop {us : List Int} (hu : ∀ u ∈ us, 0 ≤ u) (hl : us.length ≤ 900) : Kind (n + 6) (.tuple [.str "loop", dear.D, free.D, .tuple ((us ++ [0, 2]).map .int), .tuple (([1, 2] : List Int).map .int)]) .none := by
  have hu1 : ∀ u ∈ us ++ [0, 2], 0 ≤ u := fun u h => (List.mem_append.mp h).elim (hu u) fun h => by simp at h; omega
  have hu2 : ∀ u ∈ ([1, 2] : List Int), 0 ≤ u := fun u h => by simp at h; omega
  have s1 := walk_S dear_V us (zero_S dear_V)
  have s2 := walk_S free_V us (zero_S free_V)
  have a1 := loop_all _ (statesL_mem s1)
  have a2 := loop_free _ (statesL_mem s2)
  refine kind_of (n := n + 5) (j := 27) (many := 5) (by decide) rfl (by decide) (by decide) (by decide) ?_ (fun i p p' hi hs => ?_) (fun d hd => ?_)
  · refine (F27 n dear_V free_V hu1 hu2 (by simp; omega)).trans ?_
    rw [walk_app dear (us ++ [0, 2]), walk_app free (us ++ [0, 2]), walk_app dear us, walk_app free us]
    simp only [a1.1, a2.1, a2.2]
    have := a1.2
    simp
    omega
  · have hsz : szL (.tuple ((us ++ [0, 2]).map .int)) := fun xs e => by cases e; simp; omega
    have hsz' : szL (.tuple (([1, 2] : List Int).map .int)) := fun xs e => by cases e; simp
    match i, hi with
    | 0, hi => cases hi; exact F27_bad n hsz hsz' (by simp [sp_form hs])
    | 1, hi => cases hi; exact F27_bad n hsz hsz' (by simp [sp_form hs])
    | 2, hi =>
      cases hi
      have := sp_uses (by simp; omega) hs
      exact F27_bad n this.2 hsz' (by simp [this.1])
    | 3, hi =>
      cases hi
      have := sp_uses (by simp) hs
      exact F27_bad n hsz this.2 (by simp [this.1])
    | k + 4, hi => simp at hi
  · refine (F27 n dear_V free_V hu1 hu2 (by simp; omega)).trans ?_
    simp [(sp_none hd).1]
theorem K_ray {us : List Int} (hu : ∀ u ∈ us, 0 ≤ u) (hl : us.length ≤ 900) {fr : Int} (hf : 4 ≤ fr) : Kind (n + 6) (.tuple [.str "ray", dear.D, free.D, .tuple (us.map .int), .int fr]) .none := by
  have s1 := walk_S dear_V us (zero_S dear_V)
  have s2 := walk_S free_V us (zero_S free_V)
  have hsz : szL (.tuple (us.map .int)) := fun xs e => by cases e; simp; omega
  refine kind_of (n := n + 5) (j := 28) (many := 5) (by decide) rfl (by decide) (by decide) (by decide) ?_ (fun i p p' hi hs => ?_) (fun d hd => ?_)
  · exact F28 n dear_V free_V hu (by omega) fr (by omega) fun _ u h => ray_grow s1 s2 (by omega)
  · match i, hi with
    | 0, hi => cases hi; exact F28_bad n hsz (by simp [sp_form hs])
    | 1, hi => cases hi; exact F28_bad n hsz (by simp [sp_form hs])
    | 2, hi =>
      cases hi
      have := sp_uses (by omega) hs
      exact F28_bad n this.2 (by simp [this.1])
    | 3, hi => cases hi; exact F28_bad n hsz (by simp [sp_isU hs])
    | k + 4, hi => simp at hi
  · refine (F28 n dear_V free_V hu (by omega) fr (by omega) fun h u _ => ?_).trans (by rw [(sp_none hd).1])
    rw [(sp_none hd).1] at h
    cases h
theorem K_never {G : Fm} (W : G.V) (mo : Option Int) (hm : ∀ m, mo = some m → 0 ≤ m) {rows : List Rw} {am : Int} (T : Tbl free G rows am) (hb : ∀ r ∈ rows, neverB free G mo rows r.1 = true) : Kind (n + 7) (.tuple [.str "never", free.D, G.D, optI mo, .int am]) (.tuple (rows.map rwD)) := by
  refine kind_of (n := n + 6) (j := 29) (many := 5) (by decide) rfl (by decide) (by decide) (by decide) ?_ (fun i p p' hi hs => ?_) (fun d hd => ?_)
  · exact F29 n free_V W T mo hm hb
  · match i, hi with
    | 0, hi => cases hi; exact F29_bad (n + 1) (by simp [sp_form hs])
    | 1, hi => cases hi; exact F29_bad (n + 1) (by simp [sp_form hs])
    | 2, hi => cases hi; exact F29_mo (n + 1) free_V W T (sp_opt hs).1 (sp_opt hs).2.1
    | 3, hi => cases hi; exact F29_bad (n + 1) (by simp [sp_isI hs])
    | k + 4, hi => simp at hi
  · exact F29_tab (n + 1) free_V W am (sp_tab hd)
theorem K_apart {us : List Int} (hu : ∀ u ∈ us, 0 ≤ u) (hl : us.length ≤ 900) : Kind (n + 6) (.tuple [.str "apart", dear.D, free.D, .tuple ((us ++ [9]).map .int)]) .none := by
  have hu1 : ∀ u ∈ us ++ [9], 0 ≤ u := fun u h => (List.mem_append.mp h).elim (hu u) fun h => by simp at h; omega
  have s1 := walk_S dear_V us (zero_S dear_V)
  have s2 := walk_S free_V us (zero_S free_V)
  have hsz : szL (.tuple ((us ++ [9]).map .int)) := fun xs e => by cases e; simp; omega
  refine kind_of (n := n + 5) (j := 30) (many := 4) (by decide) rfl (by decide) (by decide) (by decide) ?_ (fun i p p' hi hs => ?_) (fun d hd => ?_)
  · refine (F30 n dear_V free_V 9 hu1 (by omega)).trans ?_
    simp [apart_all _ (statesL_mem s1) _ (statesL_mem s2)]
  · match i, hi with
    | 0, hi => cases hi; exact F30_bad n hsz (by simp [sp_form hs])
    | 1, hi => cases hi; exact F30_bad n hsz (by simp [sp_form hs])
    | 2, hi =>
      cases hi
      have := sp_uses (by simp; omega) hs
      exact F30_bad n this.2 (by simp [this.1])
    | k + 3, hi => simp at hi
  · exact F30_c n dear_V free_V hu1 (by simp; omega) (sp_none hd).1
theorem K_lost {F : Fm} (V : F.V) {ps : List (Int × Int)} (hp : ∀ u ∈ ps, 0 ≤ u.1 ∧ u.1 ≤ u.2) (hl : ps.length ≤ 900) : Kind (n + 6) (.tuple [.str "lost", F.D, .tuple (ps.map tiD), .int ((F.walk (ps.map (·.1)) (0, 0, 0)).1 - (F.walk (ps.map (·.2)) (0, 0, 0)).1)]) .none := by
  refine kind_of (n := n + 5) (j := 32) (many := 4) (by decide) rfl (by decide) (by decide) (by decide) ?_ (fun i p p' hi hs => ?_) (fun d hd => ?_)
  · refine (F32 n V hp (by omega) _).trans ?_
    simp
  · match i, hi with
    | 0, hi => cases hi; exact F32_bad n (sz_tis (by omega)) sz_tis' (by simp [sp_form hs])
    | 1, hi =>
      cases hi
      have := sp_pairs (by omega) hs
      exact F32_bad n this.2.1 this.2.2 (by simp [this.1])
    | 2, hi => cases hi; exact F32_bad n (sz_tis (by omega)) sz_tis' (by simp [sp_isI hs])
    | k + 3, hi => simp at hi
  · refine (F32 n V hp (by omega) _).trans ?_
    simp [(sp_none hd).1]
theorem K_thrifty (mo : Option Int) (hm : ∀ m, mo = some m → 0 ≤ m) {rows : List Rw} {am : Int} (T : Tbl dear6 dear6 rows am) (hb : ∀ r ∈ rows, thriftB dear6 mo rows r.1 = true) : Kind (n + 7) (.tuple [.str "thrifty", dear6.D, optI mo, .int am]) (.tuple (rows.map rwD)) := by
  refine kind_of (n := n + 6) (j := 34) (many := 4) (by decide) rfl (by decide) (by decide) (by decide) ?_ (fun i p p' hi hs => ?_) (fun d hd => ?_)
  · exact F34 n dear6_V T mo hm hb
  · match i, hi with
    | 0, hi => cases hi; exact F34_bad (n + 1) (by simp [sp_form hs])
    | 1, hi => cases hi; exact F34_mo (n + 1) (formB_to dear6_V) rfl (sp_opt hs).1 (sp_opt hs).2.1
    | 2, hi => cases hi; exact F34_bad (n + 1) (by simp [sp_isI hs])
    | k + 3, hi => simp at hi
  · exact F34_tab (n + 1) dear6_V am mo hm (sp_tab hd)
end
/-! #### what the kernel computes -/
def isTr : Option PyData → Bool
  | some (.bool b) => b
  | _ => false
theorem isTr_of {o : Option PyData} (h : isTr o = true) : o = some (.bool true) := by
  unfold isTr at h
  split at h
  · rw [h]
  · cases h
def sameL : List Pr2 := [((0, 0, 0), (0, 0, 0)), ((0, 0, 1), (0, 0, 1)), ((0, 1, 0), (0, 1, 0)), ((0, 1, 1), (0, 1, 1)), ((1, 0, 0), (1, 0, 0)), ((1, 0, 1), (1, 0, 1)), ((1, 1, 0), (1, 1, 0)), ((1, 1, 1), (1, 1, 1))]
def cheapT : List (List Int) := [[dear.chg (0, 0, 0) 2, 0], [(dear.walk [2, 7] (0, 0, 0)).1, (free.walk [2, 7] (0, 0, 0)).1]]
set_option maxHeartbeats 0
theorem alike_k : isTr (Fn 10 31 [dear.D, dear.D, .tuple (sameL.map prS)]) = true := by decide +kernel
theorem losing_k : isTr (Fn 10 33 [busyF.D, .tuple (([(4, 5), (0, 9)] : List (Int × Int)).map tiD), .tuple (([(4, 5)] : List (Int × Int)).map tiD), .none]) = true := by decide +kernel
theorem cheapest_k : isTr (Fn 10 37 [.tuple ([dear, free].map Fm.D), .tuple (([2, 7] : List Int).map .int), .int 5, .tuple (([1, 1] : List Int).map .int), .tuple (cheapT.map fun ns => .tuple (ns.map .int))]) = true := by decide +kernel
theorem same_k : (Fn 10 62 [dear.D]).isSome = true := by decide +kernel
set_option maxHeartbeats 4000000
theorem K_alike : Kind 11 (.tuple [.str "alike", dear.D, dear.D]) (.tuple (sameL.map prS)) := by
  refine kind_of (n := 10) (j := 31) (many := 3) (by decide) rfl (by decide) (by decide) (by decide) ?_ (fun i p p' hi hs => ?_) (fun d hd => ?_)
  · exact isTr_of alike_k
  · match i, hi with
    | 0, hi => cases hi; exact F31_bad 5 (by simp [sp_form hs])
    | 1, hi => cases hi; exact F31_bad 5 (by simp [sp_form hs])
    | k + 2, hi => simp at hi
  · rcases sp_same (F := dear) (G := dear) hd with h | ⟨ys, rfl, h⟩
    · exact F31_bad 5 (by simp [h])
    · exact F31_tab 5 dear_V dear_V ys h
theorem K_losing : Kind 11 (.tuple [.str "losing", busyF.D, .tuple (([(4, 5), (0, 9)] : List (Int × Int)).map tiD), .tuple (([(4, 5)] : List (Int × Int)).map tiD)]) .none := by
  have h1 : ∀ u ∈ ([(4, 5), (0, 9)] : List (Int × Int)), 0 ≤ u.1 ∧ u.1 ≤ u.2 := by decide
  have h2 : ∀ u ∈ ([(4, 5)] : List (Int × Int)), 0 ≤ u.1 ∧ u.1 ≤ u.2 := by decide
  refine kind_of (n := 10) (j := 33) (many := 4) (by decide) rfl (by decide) (by decide) (by decide) ?_ (fun i p p' hi hs => ?_) (fun d hd => ?_)
  · exact isTr_of losing_k
  · match i, hi with
    | 0, hi => cases hi; exact F33_bad 5 (sz_tis (by simp)) sz_tis' (sz_tis (by simp)) sz_tis' (by simp [sp_form hs])
    | 1, hi =>
      cases hi
      have := sp_pairs (ps := [(4, 5), (0, 9)]) (by simp) hs
      exact F33_bad 5 this.2.1 this.2.2 (sz_tis (by simp)) sz_tis' (by simp [this.1])
    | 2, hi =>
      cases hi
      have := sp_pairs (ps := [(4, 5)]) (by simp) hs
      exact F33_bad 5 (sz_tis (by simp)) sz_tis' this.2.1 this.2.2 (by simp [this.1])
    | k + 3, hi => simp at hi
  · exact F33_c 5 busy_V h1 h2 (by simp) (sp_none hd).1
theorem K_cheapest : Kind 11 (.tuple [.str "cheapest", .tuple ([dear, free].map Fm.D), .tuple (([2, 7] : List Int).map .int), .int 5, .tuple (([1, 1] : List Int).map .int)]) (.tuple (cheapT.map fun ns => .tuple (ns.map .int))) := by
  have z1 : szL (.tuple (([2, 7] : List Int).map .int)) := fun xs e => by cases e; simp
  have z2 : szL (.tuple (([1, 1] : List Int).map .int)) := fun xs e => by cases e; simp
  have hV : ∀ F ∈ [dear, free], F.V := fun F h => by
    rcases List.mem_cons.mp h with rfl | h
    · exact dear_V
    · rw [List.mem_singleton] at h
      exact h ▸ free_V
  refine kind_of (n := 10) (j := 37) (many := 5) (by decide) rfl (by decide) (by decide) (by decide) ?_ (fun i p p' hi hs => ?_) (fun d hd => ?_)
  · exact isTr_of cheapest_k
  · match i, hi with
    | 0, hi => cases hi; exact F37_bad 5 z1 z2 (by rw [sp_plans (Fs := [dear, free]) hs]; rfl)
    | 1, hi =>
      cases hi
      have := sp_uses (us := [2, 7]) (by simp) hs
      exact F37_bad 5 this.2 z2 (by simp [this.1])
    | 2, hi => cases hi; exact F37_bad 5 z1 z2 (by simp [sp_isU hs])
    | 3, hi =>
      cases hi
      have := sp_uses (us := [1, 1]) (by simp) hs
      exact F37_bad 5 z1 this.2 (by simp [this.1])
    | k + 4, hi => simp at hi
  · rcases sp_numsT (k := 2) (nss := cheapT) (fun ns h => by
      simp only [cheapT, List.mem_cons, List.not_mem_nil, or_false] at h
      rcases h with rfl | rfl <;> rfl) hd with h | ⟨ys, rfl, h⟩
    · exact F37_bad 5 z1 z2 (by simp [h])
    · exact F37_tab 5 [dear, free] hV (by simp) (by simp) (us := [2, 7]) (rs := [1, 1]) (by simp) (by simp) (by simp) (by simp) 5 (by omega) ys (by rw [show ([dear, free] : List Fm).length = 2 from rfl, h]; simp)
end K26.Q
namespace K26.Q
open PySem L2
/-! ### data that can be shown -/
def niL : PyData → Bool
  | .none => true
  | .int i => decide (i.natAbs < 10 ^ 40)
  | .str x => (x.cps.toList.all fun c => decide (c < 128)) && decide (x.cps.size ≤ 12)
  | _ => false
def ni : Nat → PyData → Bool
  | 0, d => niL d
  | k + 1, .tuple xs => xs.all (ni k)
  | _ + 1, d => niL d
def nz : Nat → PyData → Nat
  | 0, _ => 1
  | k + 1, .tuple xs => 1 + (xs.map (nz k)).sum
  | _ + 1, _ => 1
theorem niL_facts {d : PyData} (h : niL d = true) : d.plain = true ∧ d.showable = true ∧ d.depth = 0 ∧ d.leavesShort 60 = true ∧ d.weight ≤ 140 := by
  cases d with
  | none => exact ⟨rfl, rfl, rfl, rfl, by simp [PyData.weight]⟩
  | int i =>
    have h : i.natAbs < 10 ^ 40 := of_decide_eq_true h
    have h3 : i.natAbs < 2 ^ 139 := Nat.lt_of_lt_of_le h (by decide)
    have h2 : i.natAbs = 0 ∨ i.natAbs.log2 < 139 := by
      by_cases e : i.natAbs = 0
      · exact .inl e
      · exact .inr ((Nat.log2_lt e).mpr h3)
    refine ⟨rfl, ?_, rfl, ?_, ?_⟩
    · simp only [PyData.showable, decide_eq_true_eq]
      rcases h2 with e | e
      · rw [e]; decide
      · omega
    · have := int_text_length_le10 (a := i) (k := 40) (by decide) h
      simp only [PyData.leavesShort, decide_eq_true_eq]
      show (Str.ofString (toString i)).length ≤ 60
      rw [PySem.ofString_length]
      omega
    · simp only [PyData.weight]
      rcases h2 with e | e
      · have : i = 0 := by omega
        rw [this]; simp
      · split <;> omega
  | str x =>
    simp only [niL, Bool.and_eq_true, List.all_eq_true, decide_eq_true_eq] at h
    refine ⟨rfl, rfl, rfl, ?_, ?_⟩
    · simp only [PyData.leavesShort, List.all_eq_true, decide_eq_true_eq]
      intro c hc
      have := h.1 c hc
      have : (128 : Nat) ≤ 16 ^ 8 := by decide
      omega
    · simp only [PyData.weight]
      omega
  | _ => simp [niL] at h
theorem ni_facts : ∀ (k : Nat) (d : PyData), ni k d = true → d.plain = true ∧ d.showable = true ∧ d.depth ≤ k ∧ d.leavesShort 60 = true ∧ d.weight + 1 ≤ 141 * nz k d
  | 0, d, h => by
    obtain ⟨h1, h2, h3, h4, h5⟩ := niL_facts h
    exact ⟨h1, h2, by omega, h4, by simp only [nz]; omega⟩
  | k + 1, d, h => by
    cases d with
    | tuple xs =>
      have h : xs.all (ni k) = true := h
      have hall : ∀ xs : List PyData, xs.all (ni k) = true → PyData.plainAll xs = true ∧ PyData.showableAll xs = true ∧ PyData.depthAll xs ≤ k ∧ PyData.leavesShortAll 60 xs = true ∧ PyData.weightAll xs ≤ 141 * (xs.map (nz k)).sum := by
        intro xs
        induction xs with
        | nil => intro _; exact ⟨rfl, rfl, by simp [PyData.depthAll], rfl, by simp [PyData.weightAll]⟩
        | cons x xs ih =>
          intro h
          rw [List.all_cons, Bool.and_eq_true] at h
          obtain ⟨a1, a2, a3, a4, a5⟩ := ni_facts k x h.1
          obtain ⟨b1, b2, b3, b4, b5⟩ := ih h.2
          refine ⟨by simp [PyData.plainAll, a1, b1], by simp [PyData.showableAll, a2, b2], by simp only [PyData.depthAll]; omega, by simp [PyData.leavesShortAll, a4, b4], ?_⟩
          simp only [PyData.weightAll, List.map_cons, List.sum_cons, Nat.mul_add]
          omega
      obtain ⟨b1, b2, b3, b4, b5⟩ := hall xs h
      refine ⟨by simpa [PyData.plain] using b1, by simpa [PyData.showable] using b2, by simp only [PyData.depth]; omega, by simpa [PyData.leavesShort] using b4, ?_⟩
      simp only [PyData.weight, nz, Nat.mul_add]
      omega
    | none => obtain ⟨h1, h2, h3, h4, h5⟩ := niL_facts (d := .none) h; exact ⟨h1, h2, by omega, h4, by simp only [nz]; omega⟩
    | int i => obtain ⟨h1, h2, h3, h4, h5⟩ := niL_facts (d := .int i) h; exact ⟨h1, h2, by omega, h4, by simp only [nz]; omega⟩
    | str x => obtain ⟨h1, h2, h3, h4, h5⟩ := niL_facts (d := .str x) h; exact ⟨h1, h2, by omega, h4, by simp only [nz]; omega⟩
    | bool b => exact absurd h (by simp [ni, niL])
    | list xs => exact absurd h (by simp [ni, niL])
    | dict kvs => exact absurd h (by simp [ni, niL])
/-- what repr and str ask -/
theorem show_ok {k : Nat} {xs : List PyData} (h : ni k (.tuple xs) = true) (hk : k ≤ 50) (hz : nz k (.tuple xs) ≤ 1500) :
    ((PyData.tuple xs).plain && (PyData.tuple xs).showable && decide ((PyData.tuple xs).shown.length ≤ SL) && decide ((PyData.tuple xs).depth ≤ DL)) = true := by
  obtain ⟨h1, h2, h3, h4, h5⟩ := ni_facts k _ h
  have h6 := PyData.shown_le 60 (by decide) _ h4
  have hw : (PyData.tuple xs).weight ≤ 141 * 1500 := by omega
  have h7 : (60 + 2) * (PyData.tuple xs).weight ≤ 62 * (141 * 1500) := Nat.mul_le_mul_left _ hw
  have hd : (PyData.tuple xs).depth ≤ 100 := by omega
  have hs : (PyData.tuple xs).shown.length ≤ 16777216 := by omega
  rw [h1, h2, decide_eq_true (show (PyData.tuple xs).shown.length ≤ SL from hs), decide_eq_true (show (PyData.tuple xs).depth ≤ DL from hd)]
  rfl
/-! ### places -/
def goP (f : PyData → List (List Nat)) : Nat → List PyData → List (List Nat)
  | _, [] => []
  | i, x :: r => (f x).map (i :: ·) ++ goP f (i + 1) r
def paths : Nat → PyData → List (List Nat)
  | 0, _ => [[]]
  | k + 1, .tuple xs => [] :: goP (paths k) 0 xs
  | _ + 1, _ => [[]]
def encP (w : List Nat) : PyData := .tuple ((w.map fun i : Nat => (i : Int)).map .int)
theorem goP_len (f : PyData → List (List Nat)) (g : PyData → Nat) (h : ∀ x, (f x).length = g x) : ∀ (i : Nat) (xs : List PyData), (goP f i xs).length = (xs.map g).sum
  | _, [] => rfl
  | i, x :: r => by simp [goP, h, goP_len f g h (i + 1) r]
theorem paths_len : ∀ (k : Nat) (d : PyData), (paths k d).length = nz k d
  | 0, _ => rfl
  | k + 1, .tuple xs => by simp only [paths, nz, List.length_cons, goP_len _ _ (paths_len k)]; omega
  | k + 1, .none => rfl
  | k + 1, .int _ => rfl
  | k + 1, .bool _ => rfl
  | k + 1, .str _ => rfl
  | k + 1, .list _ => rfl
  | k + 1, .dict _ => rfl
theorem goP_mem {f : PyData → List (List Nat)} {w : List Nat} : ∀ (i : Nat) (xs : List PyData), w ∈ goP f i xs → ∃ j x w', xs[j]? = some x ∧ w' ∈ f x ∧ w = (i + j) :: w'
  | _, [], h => by cases h
  | i, x :: r, h => by
    rcases List.mem_append.mp h with h | h
    · obtain ⟨w', h1, rfl⟩ := List.mem_map.mp h
      exact ⟨0, x, w', rfl, h1, rfl⟩
    · obtain ⟨j, y, w', h1, h2, rfl⟩ := goP_mem (i + 1) r h
      exact ⟨j + 1, y, w', by simpa using h1, h2, by rw [show i + 1 + j = i + (j + 1) by omega]⟩
theorem paths_le : ∀ (k : Nat) (d : PyData) (w : List Nat), w ∈ paths k d → w.length ≤ k
  | 0, _, w, h => by simp [paths] at h; simp [h]
  | k + 1, .tuple xs, w, h => by
    rcases List.mem_cons.mp h with rfl | h
    · simp
    · obtain ⟨j, x, w', _, h2, rfl⟩ := goP_mem 0 xs h
      have := paths_le k x w' h2
      simp only [List.length_cons]
      omega
  | k + 1, .none, w, h => by simp [paths] at h; simp [h]
  | k + 1, .int _, w, h => by simp [paths] at h; simp [h]
  | k + 1, .bool _, w, h => by simp [paths] at h; simp [h]
  | k + 1, .str _, w, h => by simp [paths] at h; simp [h]
  | k + 1, .list _, w, h => by simp [paths] at h; simp [h]
  | k + 1, .dict _, w, h => by simp [paths] at h; simp [h]
def plcB : Ss := (.cons (.set 1 (.bin .Add (.var 1) (.lc (.bin .Add (.tup (.cons (.var 2) .nil)) (.var 4)) (.nm 4) (.seq (.call 64 (.cons (.var 3) .nil))) .no [4]))) .nil)
theorem places_leaf (n : Nat) {d : PyData} (h : isTup d = false) : Fn (n + 1) 64 [d] = some (.list [encP []]) := by
  rw [Fn_run (D := d_law_places) n 64 _ rfl (by decide) rfl rfl rfl]
  cases d <;> first | (cases h; done) | (simp [DefT.run, d_law_places, t_law_places, n_law_places]; rfl)
theorem F64 : ∀ (k : Nat) (d : PyData), ni k d = true → nz k d ≤ 100000 → k ≤ 100 → ∀ n, Fn (n + k + 1) 64 [d] = some (.list ((paths k d).map encP))
  | 0, d, h, _, _, n => by
    refine (places_leaf n ?_).trans rfl
    cases d <;> first | rfl | simp [ni, niL] at h
  | k + 1, d, h, hz, hk, n => by
    cases d with
    | tuple xs =>
      have h : xs.all (ni k) = true := h
      simp only [nz] at hz
      have loop : ∀ (suf pre : List PyData) (acc : List (List Nat)) (j2 j3 j4 : Option Sl), pre ++ suf = xs → acc.length + (suf.map (nz k)).sum ≤ 100001 → (suf.map (nz k)).sum ≤ 100000 → suf.all (ni k) = true →
          ∃ k2 k3 k4, forRun (forS (cfN (n + k + 1)) (.tp (.cons (.nm 2) (.cons (.nm 3) .nil))) plcB) (enu pre.length suf) [some (.d (.tuple xs)), some (.d (.list (acc.map encP))), j2, j3, j4] [] =
            some (.nx [some (.d (.tuple xs)), some (.d (.list ((acc ++ goP (paths k) pre.length suf).map encP))), k2, k3, k4] []) := by
        intro suf
        induction suf with
        | nil => intro pre acc j2 j3 j4 _ _ _ _; exact ⟨j2, j3, j4, by simp [enu, forRun, goP]⟩
        | cons x r ih =>
          intro pre acc j2 j3 j4 hp hl hl2 ha
          rw [List.all_cons, Bool.and_eq_true] at ha
          simp only [List.map_cons, List.sum_cons] at hl hl2
          have hx := F64 k x ha.1 (by omega) (by omega) n
          have hpl := paths_len k x
          have hlen : ∀ w ∈ paths k x, w.length ≤ k := fun w hw => paths_le k x w hw
          obtain ⟨k2, k3, k4, e⟩ := ih (pre ++ [x]) (acc ++ (paths k x).map (pre.length :: ·)) (some (.d (.int pre.length))) (some (.d x)) j4 (by simp [← hp]) (by simp [hpl]; omega) (by omega) ha.2
          refine ⟨k2, k3, k4, ?_⟩
          rw [List.length_append, List.length_singleton] at e
          unfold enu forRun
          have st : forS (cfN (n + k + 1)) (.tp (.cons (.nm 2) (.cons (.nm 3) .nil))) plcB (.tuple [.int pre.length, x]) [some (.d (.tuple xs)), some (.d (.list (acc.map encP))), j2, j3, j4] [] =
              some (.nx [some (.d (.tuple xs)), some (.d (.list ((acc ++ (paths k x).map (pre.length :: ·)).map encP))), some (.d (.int pre.length)), some (.d x), j4] []) := by
            simp [forS, plcB, hx]
            generalize hF : lcRun _ _ _ _ = o
            rw [lc_map (h := fun y => match y with
              | .tuple ys => .tuple (.int pre.length :: ys)
              | _ => .none) hF (fun y hy => by
              obtain ⟨w, hw, rfl⟩ := List.mem_map.mp hy
              have := hlen w hw
              have h1 : 1 + w.length ≤ 16777216 := by omega
              simp [lcS, encP, h1]) (by simp [hpl]; omega)]
            have h2 : acc.length + (paths k x).length ≤ 16777216 := by omega
            simp [h2]
            intro w hw
            rfl
          rw [st]
          simp only [Option.bind_some]
          rw [e]
          simp [goP]
      obtain ⟨k2, k3, k4, e⟩ := loop xs [] [[]] none none none rfl (by simp; omega) (by omega) h
      rw [show n + (k + 1) + 1 = (n + k + 1) + 1 by omega]
      rw [Fn_run (D := d_law_places) (n + k + 1) 64 _ rfl (by decide) rfl rfl rfl]
      simp only [DefT.run, d_law_places, t_law_places]
      simp only [plcB, List.length_nil] at e
      have e0 : [encP []] = ([[]] : List (List Nat)).map encP := rfl
      have e1 : PyData.tuple [] = encP [] := rfl
      simp [n_law_places, mapIdx_enu]
      rw [e1, e0, e]
      simp [paths]
    | none => exact (places_leaf _ rfl).trans rfl
    | int i => exact (places_leaf _ rfl).trans rfl
    | str x => exact (places_leaf _ rfl).trans rfl
    | bool b => exact absurd h (by simp [ni, niL])
    | list xs => exact absurd h (by simp [ni, niL])
    | dict kvs => exact absurd h (by simp [ni, niL])
end K26.Q
namespace K26.Q
open PySem L2
theorem le_sum (f : PyData → Nat) {x : PyData} : ∀ {xs : List PyData}, x ∈ xs → f x ≤ (xs.map f).sum
  | y :: xs, h => by
    simp only [List.map_cons, List.sum_cons]
    rcases List.mem_cons.mp h with rfl | h
    · omega
    · have := le_sum f h
      omega
/-- a path leads somewhere -/
inductive AtW : PyData → List Nat → PyData → Prop
  | here {d : PyData} : AtW d [] d
  | down {xs : List PyData} {i : Nat} {x y : PyData} {w : List Nat} : xs[i]? = some x → AtW x w y → AtW (.tuple xs) (i :: w) y
theorem paths_at : ∀ (k : Nat) (d : PyData), ni k d = true → ∀ w ∈ paths k d, ∃ x m, AtW d w x ∧ ni m x = true ∧ m ≤ k ∧ nz m x ≤ nz k d
  | 0, d, h, w, hw => by
    simp [paths] at hw
    subst hw
    exact ⟨d, 0, .here, h, Nat.le_refl _, Nat.le_refl _⟩
  | k + 1, d, h, w, hw => by
    have leaf : ∀ d : PyData, ni (k + 1) d = true → w = [] → ∃ x m, AtW d w x ∧ ni m x = true ∧ m ≤ k + 1 ∧ nz m x ≤ nz (k + 1) d := fun d h e => by
      subst e
      exact ⟨d, k + 1, .here, h, Nat.le_refl _, Nat.le_refl _⟩
    cases d with
    | tuple xs =>
      rcases List.mem_cons.mp hw with e | hw
      · exact leaf _ h e
      · obtain ⟨j, x, w', h1, h2, rfl⟩ := goP_mem 0 xs hw
        have hx : ni k x = true := List.all_eq_true.mp h x (List.mem_of_getElem? h1)
        obtain ⟨y, m, h3, h4, h5, h6⟩ := paths_at k x hx w' h2
        refine ⟨y, m, by rw [Nat.zero_add]; exact .down h1 h3, h4, by omega, Nat.le_trans h6 ?_⟩
        simp only [nz]
        have : nz k x ≤ (xs.map (nz k)).sum := le_sum (nz k) (List.mem_of_getElem? h1)
        omega
    | none => exact leaf _ h (by simpa [paths] using hw)
    | int i => exact leaf _ h (by simpa [paths] using hw)
    | str x => exact leaf _ h (by simpa [paths] using hw)
    | bool b => exact absurd h (by simp [ni, niL])
    | list xs => exact absurd h (by simp [ni, niL])
    | dict kvs => exact absurd h (by simp [ni, niL])
theorem F65 (n : Nat) {d x : PyData} {w : List Nat} (h : AtW d w x) : Fn (n + 1) 65 [d, encP w] = some x := by
  rw [Fn_run (D := d_law_at) n 65 _ rfl (by decide) rfl rfl rfl]
  have loop : ∀ (w : List Nat) (d x : PyData) (a1 j : Option Sl), AtW d w x → ∃ j', forRun (forS (cfN n) (.nm 2) (.cons (.set 0 (.ix (.var 0) (.var 2))) .nil)) ((w.map fun i : Nat => (i : Int)).map .int) [some (.d d), a1, j] [] = some (.nx [some (.d x), a1, j'] []) := by
    intro w
    induction w with
    | nil => intro d x a1 j h; cases h; exact ⟨j, rfl⟩
    | cons i w ih =>
      intro d x a1 j h
      cases h with
      | @down xs _ x0 _ _ h1 h2 =>
        obtain ⟨j', e⟩ := ih x0 x a1 (some (.d (.int i))) h2
        refine ⟨j', ?_⟩
        rw [List.map_cons, List.map_cons]
        unfold forRun
        simp [forS, atI_nat, h1, -List.map_map]
        exact e
  obtain ⟨j', e⟩ := loop w d x (some (.d (encP w))) none h
  have hs : seqD (encP w) = some ((w.map fun i : Nat => (i : Int)).map .int) := rfl
  simp only [DefT.run, d_law_at, t_law_at]
  simp [n_law_at, hs, e, -List.map_map]
/-- lengths on the way -/
theorem F66 : ∀ (w : List Nat) (d x y : PyData), AtW d w x → (∀ k, ni k d = true → nz k d ≤ 100000 → ∀ n, ∃ d', Fn (n + w.length + 1) 66 [d, encP w, y] = some d' ∧ (Oak x y → Sp d d') ∧ (w = [] → d' = y) ∧ ∀ i w', w = i :: w' → ∃ xs x0 x1, d = .tuple xs ∧ xs[i]? = some x0 ∧ d' = .tuple (xs.set i x1) ∧ (Oak x y → Sp x0 x1))
  | [], d, x, y, h, k, hk, hz, n => by
    cases h
    refine ⟨y, ?_, fun o => .here o, fun _ => rfl, fun i w' e => by cases e⟩
    rw [Fn_run (D := d_law_with) _ 66 _ rfl (by decide) rfl rfl rfl]
    have := eq_nil_ints []
    simp only [DefT.run, d_law_with, t_law_with]
    simp [n_law_with, encP]
    simp at this
    simp [this]
  | i :: w, d, x, y, h, k, hk, hz, n => by
    cases h with
    | @down xs _ x0 _ _ h1 h2 =>
      cases k with
      | zero => simp [ni, niL] at hk
      | succ k =>
        have hx : ni k x0 = true := List.all_eq_true.mp hk x0 (List.mem_of_getElem? h1)
        have hsum : nz k x0 ≤ (xs.map (nz k)).sum := le_sum (nz k) (List.mem_of_getElem? h1)
        simp only [nz] at hz
        have hlen : xs.length ≤ (xs.map (nz k)).sum := by
          have : ∀ l : List PyData, l.length ≤ (l.map (nz k)).sum := by
            intro l
            induction l with
            | nil => simp
            | cons a l ih =>
              have : 1 ≤ nz k a := by
                cases k with
                | zero => simp [nz]
                | succ k => cases a <;> simp only [nz] <;> omega
              simp only [List.length_cons, List.map_cons, List.sum_cons]
              omega
          exact this xs
        obtain ⟨d', e1, e2, e3, e4⟩ := F66 w x0 x y h2 k hx (by omega) n
        have hi : i < xs.length := (List.getElem?_eq_some_iff.mp h1).1
        refine ⟨.tuple (xs.set i d'), ?_, fun o => Sp.tup h1 (e2 o), ?_, fun i' w' z => ?_⟩
        · rw [show n + (i :: w).length + 1 = (n + w.length + 1) + 1 by simp only [List.length_cons]; omega]
          rw [Fn_run (D := d_law_with) _ 66 _ rfl (by decide) rfl rfl rfl]
          have q1 := eq_nil_ints ((i :: w).map fun i : Nat => (i : Int))
          have q1 : cmpD .Eq (encP (i :: w)) (.tuple []) = some false := q1
          have q2 : ixD (encP (i :: w)) (.int 0) = some (.int i) := by
            show atI _ 0 = _
            rw [atI_0]
            rfl
          have q3 : slD (encP (i :: w)) (some 1) none = some (encP w) := by
            show some (PyData.tuple (cutD _ (some 1) none)) = _
            rw [cut_f1]
            rfl
          have q4 := cut_to (xs := xs) i
          have q5 := cut_from (xs := xs) (i + 1)
          have q5 : cutD xs (some ((i : Int) + 1)) none = xs.drop (i + 1) := q5
          have q6 : min i xs.length + 1 ≤ 16777216 := by omega
          have q7 : min i xs.length + (1 + (xs.length - (i + 1))) ≤ 16777216 := by omega
          have q8 : min i xs.length + 1 + (xs.length - (i + 1)) ≤ 16777216 := by omega
          have q9 : min i xs.length ≤ 16777215 := by omega
          have e5 : xs.take i ++ d' :: xs.drop (i + 1) = xs.set i d' := (List.set_eq_take_append_cons_drop (l := xs) (i := i) (a := d')).symm ▸ by rw [if_pos hi]
          simp only [DefT.run, d_law_with, t_law_with]
          simp [n_law_with, q1, q2, q3, q4, q5, atI_nat, h1, e1, q6, q7, q8, q9, e5]
        · intro z
          cases z
        · cases z
          exact ⟨xs, x0, d', rfl, h1, rfl, e2⟩
end K26.Q
namespace K26.Q
open PySem L2
theorem P67 (n : Nat) {S : Pl} (hS : PI S) (k : Nat) (x : PyData) (h : ni k x = true) (hk : k ≤ 50) (hz : nz k x ≤ 1500) : ∃ y S', Pf (n + 2) 67 [x] S = some (y, S') ∧ Oak x y ∧ PI S' := by
  rw [Pf_run (D := d_law_of_another_kind) (n + 1) 67 _ _ rfl rfl rfl]
  simp only [DefT.run, d_law_of_another_kind, t_law_of_another_kind]
  have leaf : isTup x = false → niL x = true := fun hx => by
    cases k with
    | zero => exact h
    | succ k => cases x <;> first | exact h | cases hx
  cases x with
  | tuple xs =>
    obtain ⟨r, S', h1, h2, h3⟩ := P41 n hS 5 (by omega) (by omega)
    have hs := show_ok h hk hz
    have hstr : biD .str (.tuple xs) = some (.str (PyData.tuple xs).shown) := by
      show (if _ then _ else _) = _
      rw [if_pos hs]
    have hl : xs.length ≤ 16777215 := by
      cases k with
      | zero => simp [ni, niL] at h
      | succ k =>
        have : ∀ l : List PyData, l.length ≤ (l.map (nz k)).sum := by
          intro l
          induction l with
          | nil => simp
          | cons a l ih =>
            have : 1 ≤ nz k a := by
              cases k with
              | zero => simp [nz]
              | succ k => cases a <;> simp only [nz] <;> omega
            simp only [List.length_cons, List.map_cons, List.sum_cons]
            omega
        have := this xs
        simp only [nz] at hz
        omega
    have hl' : xs.length + 1 ≤ 16777216 := by omega
    obtain ⟨y, hy, hm⟩ := atI_in (xs := [PyData.list xs, .tuple (xs ++ [.none]), .str (PyData.tuple xs).shown, .dict [], .tuple (xs ++ [.str "x"])]) (i := r) h2.1 (by simpa using h2.2)
    refine ⟨y, S', ?_, ?_, h3⟩
    · simp [n_law_of_another_kind, hstr, hl, hl', h1, hy]
    · simp only [List.mem_cons, List.not_mem_nil, or_false] at hm
      rcases hm with rfl | rfl | rfl | rfl | rfl
      · exact .inl rfl
      · exact .inr (.inl rfl)
      · exact .inr (.inr (.inl ⟨_, rfl⟩))
      · exact .inr (.inr (.inr (.inl rfl)))
      · exact .inr (.inr (.inr (.inr rfl)))
  | int i =>
    have hL := leaf rfl
    have hlog : i.natAbs.log2 < 1920 := by
      have := (niL_facts hL).2.1
      simpa [PyData.showable] using this
    obtain ⟨tx, hstr⟩ : ∃ tx : Str, biD .str (.int i) = some (.str tx) := ⟨toString i, by
      show (if _ then _ else _) = _
      rw [if_pos hlog]⟩
    have hin : cmpD .In (.int i) (.list [.int 0, .int 1]) = some (decide (i = 0) || decide (i = 1)) := by
      simp only [cmpD]
      rw [if_pos (by simp [PyData.plain, PyData.plainAll, PyData.depth, DL])]
      simp [hasD, PyData.eqv]
      by_cases q0 : i = 0 <;> by_cases q1 : i = 1 <;> simp [q0, q1] <;> omega
    by_cases q : i = 0 ∨ i = 1
    · obtain ⟨r, S', h1, h2, h3⟩ := P41 n hS 10 (by omega) (by omega)
      have hin : cmpD .In (.int i) (.list [.int 0, .int 1]) = some true := by rw [hin]; rcases q with rfl | rfl <;> rfl
      have hmul : ∀ b : Bool, binD .Mult (.list [.bool b]) (.int 5) = some (.list [.bool b, .bool b, .bool b, .bool b, .bool b]) := fun b => by cases b <;> rfl
      obtain ⟨y, hy, hm⟩ := atI_in (xs := [PyData.str tx, .tuple [.int i], .list [.int i], .dict [], .str "x", .bool (decide (i = 1)), .bool (decide (i = 1)), .bool (decide (i = 1)), .bool (decide (i = 1)), .bool (decide (i = 1))]) (i := r) h2.1 (by simpa using h2.2)
      refine ⟨y, S', ?_, ?_, h3⟩
      · have hi1 : isaD (.int i) .int = true := rfl
        simp [n_law_of_another_kind, hstr, hin, hmul, hi1, h1, hy]
      · simp only [List.mem_cons, List.not_mem_nil, or_false] at hm
        rcases hm with rfl | rfl | rfl | rfl | rfl | rfl | rfl | rfl | rfl | rfl
        · exact .inl ⟨_, rfl⟩
        · exact .inr (.inl rfl)
        · exact .inr (.inr (.inl rfl))
        · exact .inr (.inr (.inr (.inl rfl)))
        · exact .inl ⟨_, rfl⟩
        all_goals exact .inr (.inr (.inr (.inr ⟨_, rfl⟩)))
    · obtain ⟨r, S', h1, h2, h3⟩ := P41 n hS 5 (by omega) (by omega)
      have hin : cmpD .In (.int i) (.list [.int 0, .int 1]) = some false := by
        rw [hin]
        have a : ¬ i = 0 := fun z => q (.inl z)
        have b : ¬ i = 1 := fun z => q (.inr z)
        simp [a, b]
      obtain ⟨y, hy, hm⟩ := atI_in (xs := [PyData.str tx, .tuple [.int i], .list [.int i], .dict [], .str "x"]) (i := r) h2.1 (by simpa using h2.2)
      refine ⟨y, S', ?_, ?_, h3⟩
      · have hi1 : isaD (.int i) .int = true := rfl
        simp [n_law_of_another_kind, hstr, hin, hi1, h1, hy]
      · simp only [List.mem_cons, List.not_mem_nil, or_false] at hm
        rcases hm with rfl | rfl | rfl | rfl | rfl
        · exact .inl ⟨_, rfl⟩
        · exact .inr (.inl rfl)
        · exact .inr (.inr (.inl rfl))
        · exact .inr (.inr (.inr (.inl rfl)))
        · exact .inl ⟨_, rfl⟩
  | none =>
    obtain ⟨r, S', h1, h2, h3⟩ := P41 n hS 6 (by omega) (by omega)
    obtain ⟨y, hy, hm⟩ := atI_in (xs := [PyData.bool false, .str "", .list [], .dict [], .str "None", .tuple [.str "x"]]) (i := r) h2.1 (by simpa using h2.2)
    refine ⟨y, S', ?_, ?_, h3⟩
    · have hi1 : isaD .none .int = false := rfl
      simp [n_law_of_another_kind, hi1, h1, hy]
    · simp only [List.mem_cons, List.not_mem_nil, or_false] at hm
      exact hm
  | str s =>
    obtain ⟨r, S', h1, h2, h3⟩ := P41 n hS 8 (by omega) (by omega)
    have hL := leaf rfl
    simp only [niL, Bool.and_eq_true, List.all_eq_true, decide_eq_true_eq] at hL
    have hadd : binD .Add (.str s) (.str " ") = some (.str (s ++ " ")) := by
      show (if _ then _ else _) = _
      rw [if_pos]
      have e1 : s.length = s.cps.size := rfl
      have e2 : (" " : Str).length = 1 := rfl
      rw [e1, e2]
      show s.cps.size + 1 ≤ 16777216
      omega
    have hup : upD (.str s) = some (.str ⟨s.cps.map PyProof.Rows.up1⟩) := by
      show (if _ then _ else _) = _
      rw [if_pos]
      have e1 : s.length = s.cps.size := rfl
      refine ⟨by rw [e1]; omega, ?_⟩
      rw [← Array.all_toList, List.all_eq_true]
      intro c hc
      simpa using hL.1 c hc
    obtain ⟨y, hy, hm⟩ := atI_in (xs := [PyData.str (s ++ " "), .str "", .none, .tuple [.str s], .list [.str s], .str ⟨s.cps.map PyProof.Rows.up1⟩, .int 5, .bool true]) (i := r) h2.1 (by simpa using h2.2)
    refine ⟨y, S', ?_, ?_, h3⟩
    · have hi1 : isaD (.str s) .int = false := rfl
      simp [n_law_of_another_kind, hi1, hadd, hup, h1, hy]
    · simp only [List.mem_cons, List.not_mem_nil, or_false] at hm
      exact hm
  | bool b => exact absurd (leaf rfl) (by simp [niL])
  | list xs => exact absurd (leaf rfl) (by simp [niL])
  | dict kvs => exact absurd (leaf rfl) (by simp [niL])
end K26.Q
namespace K26.Q
open PySem L2
/-! ### how large data are -/
theorem ni_up : ∀ (k : Nat) (d : PyData), ni k d = true → ni (k + 1) d = true ∧ nz (k + 1) d = nz k d
  | 0, d, h => by cases d <;> first | exact ⟨h, rfl⟩ | simp [ni, niL] at h
  | k + 1, d, h => by
    cases d with
    | tuple xs =>
      have h : xs.all (ni k) = true := h
      have gen : ∀ xs : List PyData, xs.all (ni k) = true → xs.all (ni (k + 1)) = true ∧ (xs.map (nz (k + 1))).sum = (xs.map (nz k)).sum := by
        intro xs
        induction xs with
        | nil => intro _; exact ⟨rfl, rfl⟩
        | cons x xs ih =>
          intro h
          rw [List.all_cons, Bool.and_eq_true] at h
          obtain ⟨a1, a2⟩ := ni_up k x h.1
          obtain ⟨b1, b2⟩ := ih h.2
          exact ⟨by rw [List.all_cons, a1, b1]; rfl, by simp only [List.map_cons, List.sum_cons, a2, b2]⟩
      obtain ⟨b1, b2⟩ := gen xs h
      exact ⟨b1, by simp only [nz] at b2 ⊢; rw [b2]⟩
    | none => exact ⟨h, rfl⟩
    | int i => exact ⟨h, rfl⟩
    | str x => exact ⟨h, rfl⟩
    | bool b => simp [ni, niL] at h
    | list xs => simp [ni, niL] at h
    | dict kvs => simp [ni, niL] at h
def Ni (k z : Nat) (d : PyData) : Prop := ni k d = true ∧ nz k d ≤ z
def NiL (k z : Nat) (xs : List PyData) : Prop := xs.all (ni k) = true ∧ (xs.map (nz k)).sum ≤ z
theorem Ni.up {k z : Nat} {d : PyData} (h : Ni k z d) : Ni (k + 1) z d := ⟨(ni_up k d h.1).1, by rw [(ni_up k d h.1).2]; exact h.2⟩
theorem Ni.le {k z z' : Nat} {d : PyData} (h : Ni k z d) (q : z ≤ z') : Ni k z' d := ⟨h.1, Nat.le_trans h.2 q⟩
theorem NiL.nil {k : Nat} : NiL k 0 [] := ⟨rfl, Nat.le_refl _⟩
theorem NiL.cons {k z zs : Nat} {x : PyData} {xs : List PyData} (h : Ni k z x) (t : NiL k zs xs) : NiL k (z + zs) (x :: xs) :=
  ⟨by rw [List.all_cons, h.1, t.1]; rfl, by simp only [List.map_cons, List.sum_cons]; exact Nat.add_le_add h.2 t.2⟩
theorem Ni.tup {k z : Nat} {xs : List PyData} (h : NiL k z xs) : Ni (k + 1) (1 + z) (.tuple xs) := ⟨h.1, by simp only [nz]; exact Nat.add_le_add_left h.2 1⟩
theorem NiL.map {α : Type} {k z : Nat} {f : α → PyData} : ∀ (l : List α), (∀ a ∈ l, Ni k z (f a)) → NiL k (l.length * z) (l.map f)
  | [], _ => by simpa using NiL.nil
  | a :: l, h => by
    have := NiL.cons (h a (by simp)) (NiL.map l fun b hb => h b (by simp [hb]))
    simp only [List.length_cons, Nat.succ_mul]
    rw [Nat.add_comm]
    exact this
theorem Ni.tmap {α : Type} {k z m : Nat} {f : α → PyData} {l : List α} (h : ∀ a ∈ l, Ni k z (f a)) (hl : l.length ≤ m) : Ni (k + 1) (1 + m * z) (.tuple (l.map f)) :=
  (Ni.tup (NiL.map l h)).le (Nat.add_le_add_left (Nat.mul_le_mul_right z hl) 1)
theorem Ni.int {k : Nat} {i : Int} (h1 : -(10 ^ 40) < i) (h2 : i < 10 ^ 40) : Ni k 1 (.int i) := by
  have : niL (.int i) = true := by
    simp only [niL, decide_eq_true_eq]
    omega
  cases k <;> exact ⟨this, Nat.le_refl _⟩
theorem Ni.none {k : Nat} : Ni k 1 .none := by cases k <;> exact ⟨rfl, Nat.le_refl _⟩
theorem Ni.str {k : Nat} {x : Str} (h : niL (.str x) = true) : Ni k 1 (.str x) := by cases k <;> exact ⟨h, Nat.le_refl _⟩
theorem Ni.st {F : Fm} (V : F.V) {s : St} (h : F.S s) : Ni 1 4 (stD s) := by
  obtain ⟨⟨h1, h2⟩, ⟨h3, h4⟩, h5, h6⟩ := h
  have hc := V.c
  have hr : F.row ≤ 2 := (row_le V).2
  have hf := V.f2
  exact (Ni.tup (.cons (.int (by omega) (by omega)) (.cons (.int (by omega) (by omega)) (.cons (.int (by omega) (by omega)) .nil)))).le (by decide)
theorem Ni.opt {k : Nat} {mo : Option Int} (h : ∀ m, mo = some m → 0 ≤ m ∧ m ≤ 1000000000) : Ni k 1 (optI mo) := by
  cases mo with
  | none => exact .none
  | some m => have := h m rfl; exact .int (by omega) (by omega)
theorem Ni.form {F : Fm} (V : F.V) : Ni 3 30 F.D := by
  have hi := V.i
  have hc := V.c
  have hl := V.l
  have h1 : Ni 2 3 (.tuple (F.fees.map .int)) := (Ni.tmap (k := 1) (z := 1) (m := 2) (fun a ha => by have := V.f3 a ha; exact .int (by omega) (by omega)) V.f2).le (by decide)
  have h2 : Ni 2 13 (.tuple (F.tiers.map tiD)) := (Ni.tmap (k := 1) (z := 3) (m := 4) (fun t ht => by
    have a := tiV_mem V.t3 t ht
    have b := tiV_last V.t3 (by simp) (by simp) t ht
    exact (Ni.tup (k := 0) (.cons (.int (by omega) (by omega)) (.cons (.int (by omega) (by omega)) .nil))).le (by decide)) V.t2).le (by decide)
  have h3 : Ni 2 1 (optI F.most) := .opt fun m h => by have := V.m m h; omega
  have h4 : Ni 2 4 (optT F.strk) := by
    cases hs : F.strk with
    | none => exact Ni.none.le (by decide)
    | some k =>
      have := V.s k hs
      exact (Ni.tup (k := 1) (.cons (.int (by omega) (by omega)) (.cons (.int (by omega) (by omega)) (.cons (.int (by omega) (by omega)) .nil)))).le (by decide)
  exact (Ni.tup (.cons h1 (.cons h2 (.cons (.int (by omega) (by omega)) (.cons (.int (by omega) (by omega)) (.cons (.int (by omega) (by omega)) (.cons h3 (.cons h4 .nil)))))))).le (by decide)
/-! ### how large bills are -/
theorem lw_le {b : Int} (hb : 0 ≤ b) : ∀ (ts : List (Int × Int)), (∀ t ∈ ts, (0 ≤ t.2 ∧ t.2 ≤ 1000000000) ∧ 0 ≤ t.1) → lw b ts ≤ ts.length * (1000000000 * b)
  | [], _ => by simp [lw]
  | [t], h => by
    have ht := h t (by simp)
    simp only [lw]
    have := Int.mul_le_mul ht.1.2 (show max 0 (min b b - t.1) ≤ b by omega) (by omega) (by omega)
    simpa using this
  | t :: t' :: r, h => by
    have ht := h t (by simp)
    have ih := lw_le hb (t' :: r) (fun x hx => h x (by simp [hx]))
    simp only [lw]
    have := Int.mul_le_mul ht.1.2 (show max 0 (min t'.1 b - t.1) ≤ b by omega) (by omega) (by omega)
    simp only [List.length_cons, Int.natCast_add, Int.add_mul] at ih ⊢
    omega
theorem chg_le {F : Fm} (V : F.V) {s : St} (hs : F.S s) {u B : Int} (hu : u ≤ B) (hB : 0 ≤ B) : 0 ≤ F.chg s u ∧ F.chg s u ≤ 1000000000 + 4 * (1000000000 * B) := by
  have hl := V.l
  have hf := fee_le V hs
  have hi := V.i
  obtain ⟨⟨hs1, _⟩, _⟩ := hs
  have hun : F.unc s u ≤ 1000000000 + 4 * (1000000000 * B) := by
    rw [unc_lw V]
    have h1 := lw_mono (b := max 0 (u - F.inc - s.1)) (b' := B) (by omega) F.tiers (fun t ht => (tiV_mem V.t3 t ht).1)
    have h2 := lw_le hB F.tiers (fun t ht => ⟨tiV_mem V.t3 t ht, (tiV_last V.t3 (by simp) (by simp) t ht).1⟩)
    have h3 : (F.tiers.length : Int) * (1000000000 * B) ≤ 4 * (1000000000 * B) := Int.mul_le_mul_of_nonneg_right (by have := V.t2; omega) (by omega)
    omega
  unfold Fm.chg
  cases hm : F.most with
  | none =>
    cases hk : F.strk with
    | none => simp only; omega
    | some k => have := V.s k hk; simp only; split <;> omega
  | some m =>
    have := V.m m hm
    cases hk : F.strk with
    | none => simp only; omega
    | some k => have := V.s k hk; simp only; split <;> omega
theorem walk_le {F : Fm} (V : F.V) {B : Int} (hB : 0 ≤ B) : ∀ (us : List Int) (s : St), F.S s → (∀ u ∈ us, u ≤ B) → 0 ≤ (F.walk us s).1 ∧ (F.walk us s).1 ≤ us.length * (1000000000 + 4 * (1000000000 * B))
  | [], s, _, _ => by simp [Fm.walk]
  | u :: us, s, hs, h => by
    have h1 := chg_le V hs (h u (by simp)) hB
    have h2 := walk_le V hB us (F.nxt s u) (nxt_S V hs u) (fun v hv => h v (by simp [hv]))
    have e := walk_app F [u] us s
    have e1 : F.walk [u] s = (0 + F.chg s u, F.nxt s u) := rfl
    rw [e1] at e
    rw [show u :: us = [u] ++ us from rfl, e]
    simp only [List.length_append, List.length_singleton, Int.natCast_add, Int.add_mul] at h2 ⊢
    omega
theorem firstG_in (F : Fm) (s : St) (c : Int) : ∀ (k : Nat) (lo hi : Int), lo ≤ hi → lo ≤ firstG F s c k lo hi ∧ firstG F s c k lo hi ≤ hi
  | 0, lo, hi, h => by simp only [firstG]; omega
  | k + 1, lo, hi, h => by
    unfold firstG
    split
    · split
      · have := firstG_in F s c k lo ((lo + hi) / 2) (by omega)
        omega
      · have := firstG_in F s c k ((lo + hi) / 2) hi (by omega)
        omega
    · omega
theorem edges_le {F : Fm} (V : F.V) (s : St) : ∀ u ∈ edgesL F s, u ≤ 4000000027 := by
  intro u hu
  have hf := far_le V
  have h1 := fun c => firstG_in F s c 64 F.far (F.far + 4000000000) (by omega)
  unfold edgesL firstL at hu
  split at hu
  · simp only [List.mem_singleton] at hu
    omega
  · have a := h1 (F.chg s F.far + 1)
    have b := h1 (F.chg s (F.far + 4000000000))
    cases hm : F.most with
    | none =>
      rw [hm] at hu
      simp only [List.mem_append, List.mem_cons, List.not_mem_nil, or_false] at hu
      omega
    | some m =>
      rw [hm] at hu
      simp only [List.mem_append, List.mem_cons, List.not_mem_nil, or_false] at hu
      omega
theorem allow_le {F G : Fm} (V : F.V) (W : G.V) (s t : St) (mo : Option Int) (hm : ∀ m, mo = some m → m ≤ 1000000000) : ∀ u ∈ allowL (triesL F s G t) mo, u ≤ 5000000000 := by
  have hf1 := far_le V
  have hf2 := far_le W
  have hfound : ∀ u ∈ foundL F s G t, u ≤ 4000000027 := fun u hu => by
    unfold foundL at hu
    rcases List.mem_cons.mp hu with rfl | hu
    · omega
    · rcases List.mem_append.mp (List.mem_filter.mp hu).1 with hu | hu
      · exact edges_le V s u hu
      · exact edges_le W t u hu
  have htr : ∀ u ∈ triesL F s G t, u ≤ 5000000000 := fun u hu => by
    obtain ⟨m, hmx⟩ := maxI_some (foundL F s G t) (by simp [foundL])
    have := hfound m (maxI_spec.mp hmx).1
    unfold triesL at hu
    rw [hmx] at hu
    rcases List.mem_append.mp hu with hu | hu
    · rcases List.mem_append.mp hu with hu | hu
      · have := rng_mem.mp hu; omega
      · have := hfound u (uniqI_mem.mp hu); omega
    · rw [List.mem_singleton] at hu
      simp only [Option.getD_some] at hu
      omega
  intro u hu
  cases mo with
  | none => exact htr u hu
  | some m =>
    have hm := hm m rfl
    simp only [allowL] at hu
    rcases List.mem_append.mp (uniqI_mem.mp hu) with hu | hu
    · exact htr u (List.mem_filter.mp hu).1
    · rw [List.mem_singleton] at hu; omega
theorem foldW_low {key : Int → Pr2} {wt : Int → Int} {B : Int} : ∀ (l : List Int) (rows : List Rw), (∀ u ∈ l, -B ≤ wt u) → (∀ p y, rows.lookup p = some y → -B ≤ y) → ∀ p y, (l.foldl (fun r u => relW r (key u) (wt u)) rows).lookup p = some y → -B ≤ y
  | [], rows, _, h => h
  | u :: l, rows, hw, h => foldW_low l _ (fun v hv => hw v (by simp [hv])) fun p y e => by
    unfold relW at e
    rw [lookup_store] at e
    by_cases e' : p = key u
    · rw [if_pos e'] at e
      cases e
      have := hw u (by simp)
      omega
    · rw [if_neg e'] at e
      exact h p y e
theorem Wk.low {ways : Pr2 → Option (List Rw)} {Good : Pr2 → Prop} {s0 : Pr2} {f : List Rw} {vs : List Pr2} {p : Pr2} {x B : Int} (hB : 0 ≤ B) (hlow : ∀ p, Good p → ∀ ws, ways p = some ws → ∀ g ∈ ws, -B ≤ g.2) (w : Wk ways Good s0 f vs p x) : 0 ≤ x + B * vs.length := by
  induction w with
  | start _ => simpa using hB
  | @step vs p x ws g w h1 h2 h3 h4 h5 ih =>
    have := hlow p h1 ws h2 g h3
    simp only [List.length_cons, Int.natCast_add, Int.mul_add]
    omega
/-- the numbers of "never" are small -/
theorem never_small {G : Fm} (W : G.V) (mo : Option Int) (hm : ∀ m, mo = some m → 0 ≤ m ∧ m ≤ 1000000000) {f : List Rw} (T : Settled (stepsL free G mo) (fun q => free.S q.1 ∧ G.S q.2) ((0, 0, 0), (0, 0, 0)) f) (hl : f.length ≤ 64) : ∀ r ∈ f, -(10 ^ 40) < r.2 ∧ r.2 ≤ 0 := by
  intro r hr
  have hlook := lookup_of_mem T.ok.nd hr
  refine ⟨?_, T.np _ _ hlook⟩
  obtain ⟨vs, w⟩ := T.wk _ _ hlook
  have hlow : ∀ p, (free.S p.1 ∧ G.S p.2) → ∀ ws, stepsL free G mo p = some ws → ∀ g ∈ ws, -(100000000000000000000 : Int) ≤ g.2 := by
    intro p hp ws hw g hg
    obtain ⟨ws', h1, h2, _⟩ := never_ways W hp mo
    rw [hw] at h1
    cases h1
    have hst : ws = (allowL (triesL free p.1 G p.2) mo).foldl (stepW free G p) [] := by
      unfold stepsL at hw
      split at hw
      · cases hw
      · exact (Option.some.inj hw).symm
    have hl := lookup_of_mem h2.nd hg
    rw [hst] at hl
    refine foldW_low (key := fun u => (free.nxt p.1 u, G.nxt p.2 u)) (wt := fun u => gap free p.1 G p.2 u) _ [] (fun u hu => ?_) (fun q y h => by simp at h) _ _ hl
    rw [gap_free W hp]
    have h3 := allow_le free_V W p.1 p.2 mo (fun m h => (hm m h).2) u hu
    have h4 := chg_le W hp.2 h3 (by omega)
    omega
  have h1 := w.low (by omega) hlow
  have h2 := nodup_len vs (f.map (·.1)) w.nodup (fun q hq => by
    obtain ⟨ws0, _⟩ := Option.isSome_iff_exists.mp (lookup_keys.mpr (List.mem_map.mpr ⟨r, hr, rfl⟩))
    have hn : ∀ p, (free.S p.1 ∧ G.S p.2) → ∀ ws, stepsL free G mo p = some ws → ∀ g ∈ ws, g.2 ≤ 0 := fun p hp ws hw g hg => by
      obtain ⟨ws', e1, _, e2, _⟩ := never_ways W hp mo
      rw [hw] at e1
      cases e1
      exact e2 g hg
    obtain ⟨y, e, _⟩ := w.mem hn q hq
    exact lookup_keys.mp (by rw [e]; rfl))
  rw [List.length_map] at h2
  have h3 : (100000000000000000000 : Int) * vs.length ≤ 100000000000000000000 * 64 := Int.mul_le_mul_of_nonneg_left (by omega) (by omega)
  omega
end K26.Q
namespace K26.Q
open PySem L2
theorem e_settle0 {c : Cf} {caps : List Nat} {b : Tm} {Γ : Gm} {S : Pl} : evE c (.settle caps b) Γ S = match Γ[(0 : Nat)]? with
    | some (some .pool) => c.st.bind fun st => (st fun x => (evE c b (some (.d x) :: caps.map fun i => capD (Γ[i]?).join) []).map fun p => p.1).map fun d => (d, S)
    | _ => none := nr rfl
theorem st_cf {n : Nat} : (cfN (n + 1)).st = some fun g => (d_law_settled.run { cfN n with lf := some g } [some .fn] []).map fun p => p.1 := nr rfl
theorem e_settle {n : Nat} {caps : List Nat} {b : Tm} {Γ : Gm} {S : Pl} (h : Γ[(0 : Nat)]? = some (some .pool)) : evE (cfN (n + 1)) (.settle caps b) Γ S =
    ((d_law_settled.run { cfN n with lf := some fun x => (evE (cfN (n + 1)) b (some (.d x) :: caps.map fun i => capD (Γ[i]?).join) []).map fun p => p.1 } [some .fn] []).map fun p => p.1).map fun d => (d, S) := by
  rw [e_settle0, h, st_cf]
  simp only [Option.bind_some]
/-- a true claim with what shows it -/
structure Told (d : PyData) : Prop where
  ex : ∃ claim cert, d = .tuple [claim, cert] ∧ Kind 11 claim cert
  ni : Ni 6 1400 d
theorem same_eq : Fn 10 62 [dear.D] = some (.tuple (sameL.map prS)) := by kernel_rfl
theorem statesL_free : (statesL free).length = 1 := by decide +kernel
theorem pairsL_free {G : Fm} (W : G.V) : (pairsL free G).length ≤ 24 := by
  have h2 := statesL_len W
  have e := flat_len (fun s => (statesL G).map fun t => (s, t)) 24 (statesL free) (fun a _ => by simpa using h2)
  rw [statesL_free] at e
  exact e
theorem thr_all {mo : Option Int} (h : ∀ m, mo = some m → 0 ≤ m ∧ m < 9) : thrOk mo = true := by
  cases mo with
  | none => exact thr_n
  | some m =>
    obtain ⟨h1, h2⟩ := h m rfl
    have : m = 0 ∨ m = 1 ∨ m = 2 ∨ m = 3 ∨ m = 4 ∨ m = 5 ∨ m = 6 ∨ m = 7 ∨ m = 8 := by omega
    rcases this with rfl | rfl | rfl | rfl | rfl | rfl | rfl | rfl | rfl
    · exact thr_0
    · exact thr_1
    · exact thr_2
    · exact thr_3
    · exact thr_4
    · exact thr_5
    · exact thr_6
    · exact thr_7
    · exact thr_8
theorem Ni.rows {F G : Fm} (V : F.V) (W : G.V) {rows : List Rw} (hS : ∀ r ∈ rows, F.S r.1.1 ∧ G.S r.1.2) (hv : ∀ r ∈ rows, -(10 ^ 40) < r.2 ∧ r.2 < 10 ^ 40) (hl : rows.length ≤ 64) : Ni 5 641 (.tuple (rows.map rwD)) :=
  ((Ni.tmap (k := 2) (z := 10) (m := 64) (fun r hr => by
    obtain ⟨h1, h2⟩ := hS r hr
    have := hv r hr
    exact (Ni.tup (.cons (Ni.st V h1) (.cons (Ni.st W h2) (.cons (.int this.1 this.2) .nil)))).le (by decide)) hl).up.up).le (by decide)
theorem Ni.uses {us : List Int} (hu : ∀ u ∈ us, usC u) (hl : us.length ≤ 8) : Ni 4 9 (.tuple (us.map .int)) :=
  ((Ni.tmap (k := 0) (z := 1) (m := 8) (fun u h => by have := hu u h; unfold usC at this; exact .int (by omega) (by omega)) hl).up.up.up).le (by decide)
theorem nis (x : Str) {k : Nat} (h : niL (.str x) = true := by decide) : Ni k 1 (.str x) := .str h
/-- told: a claim and its certificate, small -/
theorem told_of {claim cert : PyData} (K : Kind 11 claim cert) {z1 z2 : Nat} (h1 : Ni 5 z1 claim) (h2 : Ni 5 z2 cert) (hz : z1 + z2 ≤ 1300) : Told (.tuple [claim, cert]) :=
  ⟨⟨_, _, rfl, K⟩, (Ni.tup (.cons h1 (.cons h2 .nil))).le (by omega)⟩
section
variable {F G : Fm} (V : F.V) (W : G.V) {us : List Int} (hu : ∀ u ∈ us, usC u) (hl : us.length ≤ 4)
include hu hl
theorem T_ahead : F.V → G.V → Told (.tuple [.tuple [.str "ahead", F.D, G.D, .tuple (us.map .int), .int ((F.walk us (0, 0, 0)).1 - (G.walk us (0, 0, 0)).1)], .none]) := fun V W => by
  have hB : ∀ u ∈ us, u ≤ 10000000000000000000000000000 := fun u h => by have := hu u h; unfold usC at this; omega
  have w1 := walk_le V (B := 10000000000000000000000000000) (by omega) us _ (zero_S V) hB
  have w2 := walk_le W (B := 10000000000000000000000000000) (by omega) us _ (zero_S W) hB
  have hl4 : (us.length : Int) * (1000000000 + 4 * (1000000000 * 10000000000000000000000000000)) ≤ 4 * (1000000000 + 4 * (1000000000 * 10000000000000000000000000000)) := Int.mul_le_mul_of_nonneg_right (by omega) (by omega)
  refine told_of (K_ahead 5 V W (fun u h => (hu u h).1) (by omega)) (z1 := 80) (z2 := 1) ?_ .none (by decide)
  exact (Ni.tup (.cons (nis _) (.cons (Ni.form V).up (.cons (Ni.form W).up (.cons (Ni.uses hu (by omega)) (.cons (.int (by omega) (by omega)) .nil)))))).le (by decide)
theorem T_loop : Told (.tuple [.tuple [.str "loop", dear.D, free.D, .tuple ((us ++ [0, 2]).map .int), .tuple (([1, 2] : List Int).map .int)], .none]) := by
  refine told_of (K_loop 5 (fun u h => (hu u h).1) (by omega)) (z1 := 80) (z2 := 1) ?_ .none (by decide)
  exact (Ni.tup (.cons (nis _) (.cons (Ni.form dear_V).up (.cons (Ni.form free_V).up (.cons (Ni.uses (us := us ++ [0, 2]) (fun u h => (List.mem_append.mp h).elim (hu u) fun h => by
    simp at h; unfold usC; omega) (by simp; omega)) (.cons (Ni.uses (us := [1, 2]) (fun u h => by simp at h; unfold usC; omega) (by simp)) .nil)))))).le (by decide)
theorem T_ray {fr : Int} (h1 : 4 ≤ fr) (h2 : fr < 10 ^ 40) : Told (.tuple [.tuple [.str "ray", dear.D, free.D, .tuple (us.map .int), .int fr], .none]) := by
  refine told_of (K_ray 5 (fun u h => (hu u h).1) (by omega) h1) (z1 := 80) (z2 := 1) ?_ .none (by decide)
  exact (Ni.tup (.cons (nis _) (.cons (Ni.form dear_V).up (.cons (Ni.form free_V).up (.cons (Ni.uses hu (by omega)) (.cons (.int (by omega) h2) .nil)))))).le (by decide)
theorem T_apart : Told (.tuple [.tuple [.str "apart", dear.D, free.D, .tuple ((us ++ [9]).map .int)], .none]) := by
  refine told_of (K_apart 5 (fun u h => (hu u h).1) (by omega)) (z1 := 80) (z2 := 1) ?_ .none (by decide)
  exact (Ni.tup (.cons (nis _) (.cons (Ni.form dear_V).up (.cons (Ni.form free_V).up (.cons (Ni.uses (us := us ++ [9]) (fun u h => (List.mem_append.mp h).elim (hu u) fun h => by
    simp at h; unfold usC; omega) (by simp; omega)) .nil))))).le (by decide)
end
theorem T_never {G : Fm} (W : G.V) (mo : Option Int) (hm : ∀ m, mo = some m → 0 ≤ m ∧ m < 9) {f : List Rw} (T : Settled (stepsL free G mo) (fun q => free.S q.1 ∧ G.S q.2) ((0, 0, 0), (0, 0, 0)) f) (hl : f.length ≤ 24) :
    Told (.tuple [.tuple [.str "never", free.D, G.D, optI mo, .int 0], .tuple ((rowsL f).map rwD)]) := by
  have hm1 : ∀ m, mo = some m → 0 ≤ m := fun m e => (hm m e).1
  have hm2 : ∀ m, mo = some m → 0 ≤ m ∧ m ≤ 1000000000 := fun m e => by have := hm m e; omega
  have hp := rowsL_perm f
  have Tb := (T.tbl (by omega)).2
  refine told_of (K_never 4 W mo hm1 Tb (never_true W mo hm1 T)) (z1 := 80) (z2 := 641) ?_ (Ni.rows free_V W Tb.S (fun r hr => ?_) (by rw [hp.length_eq]; omega)) (by decide)
  · exact (Ni.tup (.cons (nis _) (.cons (Ni.form free_V).up (.cons (Ni.form W).up (.cons (.opt hm2) (.cons (.int (by omega) (by omega)) .nil)))))).le (by decide)
  · have := never_small W mo hm2 T (by omega) r (hp.mem_iff.mp hr)
    exact ⟨this.1, by omega⟩
theorem T_thrifty (mo : Option Int) (hm : ∀ m, mo = some m → 0 ≤ m ∧ m < 9) {f : List Rw} {m : Int} (hl : f.length ≤ 64) (hmx : maxI (f.map (·.2)) = some m) (T : Tbl dear6 dear6 (rowsL f) m) (hb : ∀ r ∈ rowsL f, thriftB dear6 mo (rowsL f) r.1 = true) (hsm : ∀ r ∈ f, r.2.natAbs < 1000) :
    Told (.tuple [.tuple [.str "thrifty", dear6.D, optI mo, .int m], .tuple ((rowsL f).map rwD)]) := by
  have hm1 : ∀ m, mo = some m → 0 ≤ m := fun m e => (hm m e).1
  have hm2 : ∀ m, mo = some m → 0 ≤ m ∧ m ≤ 1000000000 := fun m e => by have := hm m e; omega
  have hp := rowsL_perm f
  have hmm : m.natAbs < 1000 := by
    obtain ⟨r, hr, e⟩ := List.mem_map.mp (maxI_spec.mp hmx).1
    rw [← e]
    exact hsm r hr
  refine told_of (K_thrifty 4 mo hm1 T hb) (z1 := 80) (z2 := 641) ?_ (Ni.rows dear6_V dear6_V T.S (fun r hr => ?_) (by rw [hp.length_eq]; omega)) (by decide)
  · exact (Ni.tup (.cons (nis _) (.cons (Ni.form dear6_V).up (.cons (.opt hm2) (.cons (.int (by omega) (by omega)) .nil))))).le (by decide)
  · have := hsm r (hp.mem_iff.mp hr)
    omega
theorem T_alike : Told (.tuple [.tuple [.str "alike", dear.D, dear.D], .tuple (sameL.map prS)]) := by
  refine told_of K_alike (z1 := 80) (z2 := 100) ?_ ?_ (by decide)
  · exact (Ni.tup (.cons (nis _) (.cons (Ni.form dear_V).up (.cons (Ni.form dear_V).up .nil)))).le (by decide)
  · exact ⟨by decide +kernel, by decide +kernel⟩
theorem T_lost {F : Fm} (V : F.V) : Told (.tuple [.tuple [.str "lost", F.D, .tuple (([(0, 1), (2, 1000000000000)] : List (Int × Int)).map tiD), .int ((F.walk [0, 2] (0, 0, 0)).1 - (F.walk [1, 1000000000000] (0, 0, 0)).1)], .none]) := by
  have hB : ∀ us : List Int, us = [0, 2] ∨ us = [1, 1000000000000] → ∀ u ∈ us, u ≤ 1000000000000 := fun us h u hu => by
    rcases h with rfl | rfl <;> simp at hu <;> omega
  have w1 := walk_le V (B := 1000000000000) (by omega) [0, 2] _ (zero_S V) (hB _ (.inl rfl))
  have w2 := walk_le V (B := 1000000000000) (by omega) [1, 1000000000000] _ (zero_S V) (hB _ (.inr rfl))
  simp only [List.length_cons, List.length_nil] at w1 w2
  refine told_of (K_lost 5 V (ps := [(0, 1), (2, 1000000000000)]) (by decide) (by simp)) (z1 := 80) (z2 := 1) ?_ .none (by decide)
  refine (Ni.tup (.cons (nis _) (.cons (Ni.form V).up (.cons (z := 7) ?_ (.cons (.int ?_ ?_) .nil))))).le (by decide)
  · exact ⟨by decide +kernel, by decide +kernel⟩
  · omega
  · omega
theorem T_losing : Told (.tuple [.tuple [.str "losing", busyF.D, .tuple (([(4, 5), (0, 9)] : List (Int × Int)).map tiD), .tuple (([(4, 5)] : List (Int × Int)).map tiD)], .none]) :=
  ⟨⟨_, _, rfl, K_losing⟩, ⟨by decide +kernel, by decide +kernel⟩⟩
theorem T_cheapest : Told (.tuple [.tuple [.str "cheapest", .tuple ([dear, free].map Fm.D), .tuple (([2, 7] : List Int).map .int), .int 5, .tuple (([1, 1] : List Int).map .int)], .tuple (cheapT.map fun ns => .tuple (ns.map .int))]) :=
  ⟨⟨_, _, rfl, K_cheapest⟩, ⟨by decide +kernel, by decide +kernel⟩⟩
end K26.Q
set_option maxHeartbeats 8000000
namespace K26.Q
open PySem L2
/-- what the two settled calls give -/
theorem set1 {F : Fm} (V : F.V) (mo : Option Int) (hm : ∀ m, mo = some m → 0 ≤ m ∧ m < 9) : ∃ f, Settled (stepsL free F mo) (fun q => free.S q.1 ∧ F.S q.2) ((0, 0, 0), (0, 0, 0)) f ∧ f.length ≤ 24 ∧
    ∀ (Γ : Gm) (S : Pl), Γ[(0 : Nat)]? = some (some .pool) → Γ[(5 : Nat)]? = some (some (.d free.D)) → Γ[(3 : Nat)]? = some (some (.d F.D)) → Γ[(10 : Nat)]? = some (some (.d (optI mo))) →
      evE (cfN 10) (.settle [5, 3, 10] (.call 58 (.cons (.var 1) (.cons (.var 2) (.cons (.var 0) (.cons (.var 3) .nil)))))) Γ S = some (.dict (encK f), S) := by
  have hU := pairsL_free V
  have hs : ∀ p : Pr2, (free.S p.1 ∧ F.S p.2) → ∃ ws, stepsL free F mo p = some ws ∧ RowsOk (fun q => free.S q.1 ∧ F.S q.2) ws := fun p hp => by
    obtain ⟨ws, h1, h2, _⟩ := never_ways V hp mo
    exact ⟨ws, h1, h2⟩
  have hn : ∀ p : Pr2, (free.S p.1 ∧ F.S p.2) → ∀ ws, stepsL free F mo p = some ws → ∀ g ∈ ws, g.2 ≤ 0 := fun p hp ws hw g hg => by
    obtain ⟨ws', e1, _, e2, _⟩ := never_ways V hp mo
    rw [hw] at e1
    cases e1
    exact e2 g hg
  obtain ⟨f, h1, T⟩ := settle_start (s0 := ((0, 0, 0), (0, 0, 0))) (U := pairsL free F) hn hs (fun p hp => pairsL_mem hp) ⟨zero_S free_V, zero_S V⟩ 3000 (by omega)
  refine ⟨f, T, Nat.le_trans (T.ok.len (U := pairsL free F) fun p hp => pairsL_mem hp) hU, fun Γ S g0 g5 g3 g10 => ?_⟩
  rw [e_settle (n := 9) g0]
  have := F60 (n := 8) (g := fun x => (evE (cfN (9 + 1)) (.call 58 (.cons (.var 1) (.cons (.var 2) (.cons (.var 0) (.cons (.var 3) .nil))))) (some (.d x) :: [5, 3, 10].map fun i => capD (Γ[i]?).join) []).map fun p => p.1)
    (ways := stepsL free F mo) (Good := fun q => free.S q.1 ∧ F.S q.2) (U := pairsL free F) (fun p hp => by
      have h58 := F58 5 free free_V F V p hp mo
      simp only [List.map_cons, List.map_nil, g5, g3, g10, Option.join_some, capD]
      rw [e_call]
      simp [h58]
      cases stepsL free F mo p <;> rfl) (fun p hp ws hw => by
      obtain ⟨ws', h1, h2, _⟩ := never_ways V hp mo
      rw [hw] at h1
      cases h1
      exact h2) (fun p hp => pairsL_mem hp) (by omega) ⟨zero_S free_V, zero_S V⟩
  rw [this, h1]
  rfl
theorem slices : slD dear.D none (some 1) = some (.tuple [.tuple [.int 3, .int 3]]) ∧ slD dear.D (some 1) none = some (.tuple [.tuple [.tuple [.int 0, .int 1], .tuple [.int 2, .int 1]], .int 1, .int 1, .int 0, .none, .tuple [.int 2, .int 1, .int 1]]) ∧
    slD dear.D none (some 6) = some (.tuple [.tuple [.int 3, .int 3], .tuple [.tuple [.int 0, .int 1], .tuple [.int 2, .int 1]], .int 1, .int 1, .int 0, .none]) := ⟨rfl, rfl, rfl⟩
theorem six_D : PyData.tuple [.tuple [.int 3, .int 3], .tuple [.tuple [.int 0, .int 1], .tuple [.int 2, .int 1]], .int 1, .int 1, .int 0, .none, .none] = dear6.D := rfl
theorem dear_D : PyData.tuple [.tuple [.int 3, .int 3], .tuple [.tuple [.int 0, .int 1], .tuple [.int 2, .int 1]], .int 1, .int 1, .int 0, .none, .tuple [.int 2, .int 1, .int 1]] = dear.D := rfl
theorem free_D : PyData.tuple [.tuple [.int 0], .tuple [.tuple [.int 0, .int 0]], .int 0, .int 0, .int 0, .none, .none] = free.D := rfl
theorem busy_D : PyData.tuple [.tuple [.int 100], .tuple [.tuple [.int 0, .int 10]], .int 0, .int 0, .int 0, .int 130, .tuple [.int 5, .int 1, .int 30]] = busyF.D := rfl
theorem slices6 : ∃ A, slD dear.D none (some 6) = some A ∧ binD .Add A (.tuple [.none]) = some dear6.D := ⟨_, slices.2.2, rfl⟩
theorem slices1 : ∃ A B, slD dear.D none (some 1) = some A ∧ slD dear.D (some 1) none = some B ∧ binD .Add A B = some dear.D := ⟨_, _, slices.1, slices.2.1, rfl⟩
theorem set2 {mo : Option Int} (h : thrOk mo = true) : ∃ f m, f.length ≤ 64 ∧ maxI (f.map (·.2)) = some m ∧ Tbl dear6 dear6 (rowsL f) m ∧ (∀ r ∈ rowsL f, thriftB dear6 mo (rowsL f) r.1 = true) ∧ (∀ r ∈ f, r.2.natAbs < 1000) ∧ RowsOk (fun p => dear6.S p.1 ∧ dear6.S p.2) f ∧
    ∀ (Γ : Gm) (S : Pl), Γ[(0 : Nat)]? = some (some .pool) → Γ[(10 : Nat)]? = some (some (.d (optI mo))) → Γ[(9 : Nat)]? = some (some (.d dear.D)) →
      evE (cfN 10) (.settle [10, 9] (.call 59 (.cons (.bin .Add (.sl (.var 2) .no (.so (.int 6))) (.tup (.cons .non .nil))) (.cons (.var 0) (.cons (.var 1) .nil))))) Γ S = some (.dict (encK f), S) := by
  obtain ⟨f, m, h1, R, hl, hm, T, hb, hs⟩ := thrifty_ok h
  obtain ⟨A, hA, hB⟩ := slices6
  refine ⟨f, m, hl, hm, T, hb, hs, R, fun Γ S g0 g10 g9 => ?_⟩
  rw [e_settle (n := 9) g0]
  have hU := pairsL_len dear6_V dear6_V
  have := F60 (n := 8) (g := fun x => (evE (cfN (9 + 1)) (.call 59 (.cons (.bin .Add (.sl (.var 2) .no (.so (.int 6))) (.tup (.cons .non .nil))) (.cons (.var 0) (.cons (.var 1) .nil)))) (some (.d x) :: [10, 9].map fun i => capD (Γ[i]?).join) []).map fun p => p.1)
    (ways := fun p => some (lossL dear6 mo p)) (Good := fun q => dear6.S q.1 ∧ dear6.S q.2) (U := pairsL dear6 dear6) (fun p hp => by
      have h59 := F59 5 dear6 dear6_V p hp mo
      simp only [List.map_cons, List.map_nil, g10, g9, Option.join_some, capD]
      rw [e_call]
      simp [hA, hB, h59, wayD]) (fun p hp ws hw => by
      cases hw
      exact lossL_ok dear6_V hp mo) (fun p hp => pairsL_mem hp) (by omega) ⟨zero_S dear6_V, zero_S dear6_V⟩
  rw [this]
  have h1 : settle (fun p => some (lossL dear6 mo p)) 3000 0 [(((0, 0, 0), (0, 0, 0)), 0)] = some f := h1
  rw [h1]
  rfl
end K26.Q
namespace K26.Q
open PySem L2
theorem P63 {S : Pl} (hS : PI S) : ∃ ds S', Pf 11 63 [] S = some (.list ds, S') ∧ (∀ d ∈ ds, Told d) ∧ PI S' := by
  rw [Pf_run (D := d_law_claims) 10 63 _ _ rfl rfl rfl]
  simp only [DefT.run, d_law_claims, t_law_claims]
  have h46 := F46 9
  obtain ⟨F, S1, h1, V, i1⟩ := P45 5 hS
  obtain ⟨G, S2, h2, W, i2⟩ := P45 5 i1
  obtain ⟨us, S3, h3, hul, hu, i3⟩ := P48 6 i2
  obtain ⟨r4, S4, h4, q4, i4⟩ := P47 7 i3
  obtain ⟨r5, S5, h5, q5, i5⟩ := P41 9 i4 9 (by omega) (by omega)
  obtain ⟨r6, S6, h6, q6, i6⟩ := P41 9 i5 2 (by omega) (by omega)
  obtain ⟨mo, hmo, hm⟩ : ∃ mo, atI [PyData.none, .int r5] r6 = some (optI mo) ∧ ∀ m, mo = some m → 0 ≤ m ∧ m < 9 := by
    obtain ⟨y, hy, hym⟩ := atI_in (xs := [PyData.none, .int r5]) (i := r6) q6.1 (by simpa using q6.2)
    simp only [List.mem_cons, List.not_mem_nil, or_false] at hym
    rcases hym with rfl | rfl
    · exact ⟨none, hy, fun m e => by cases e⟩
    · exact ⟨some r5, hy, fun m e => by cases e; exact q5⟩
  obtain ⟨f1, T1, hl1, hset1⟩ := set1 V mo hm
  obtain ⟨f2, m2, hl2, hmx2, T2, hb2, hs2, R2, hset2⟩ := set2 (thr_all hm)
  have hmx1 := (T1.tbl (by omega)).1
  have w1 := F51 8 F V us (.tuple (us.map .int)) rfl (0, 0, 0) (zero_S V)
  have w2 := F51 8 G W us (.tuple (us.map .int)) rfl (0, 0, 0) (zero_S W)
  have w3 := F51 8 F V [0, 2] (.list [.int 0, .int 2]) rfl (0, 0, 0) (zero_S V)
  have w4 := F51 8 F V [1, 1000000000000] (.list [.int 1, .int 1000000000000]) rfl (0, 0, 0) (zero_S V)
  have w5 := F51 8 dear dear_V [2, 7] (.tuple [.int 2, .int 7]) rfl (0, 0, 0) (zero_S dear_V)
  have w6 := F51 8 free free_V [2, 7] (.tuple [.int 2, .int 7]) rfl (0, 0, 0) (zero_S free_V)
  have b1 := F49 9 dear dear_V (0, 0, 0) (zero_S dear_V) 2
  have g1 := F61 9 T1.ok (by omega)
  have g2 := F61 9 R2 (by omega)
  have x1 : vmxD (.dict (encK f1)) = some (.int 0) := by rw [vmx_enc, hmx1]; rfl
  have x2 : vmxD (.dict (encK f2)) = some (.int m2) := by rw [vmx_enc, hmx2]; rfl
  obtain ⟨A, B, hA, hB, hAB⟩ := slices1
  obtain ⟨C, hC, hCD⟩ := slices6
  have c1 : us.length + 2 ≤ 16777216 := by omega
  have c2 : us.length + 1 ≤ 16777216 := by omega
  have c3 : us.length ≤ 16777214 := by omega
  have c4 : us.length ≤ 16777215 := by omega
  have hq4 : 4 ≤ 4 + r4 ∧ 4 + r4 < 10 ^ 40 := by unfold usC at q4; omega
  refine ⟨[.tuple [.tuple [.str "ahead", F.D, G.D, .tuple (us.map .int), .int ((F.walk us (0, 0, 0)).1 - (G.walk us (0, 0, 0)).1)], .none],
    .tuple [.tuple [.str "loop", dear.D, free.D, .tuple ((us ++ [0, 2]).map .int), .tuple (([1, 2] : List Int).map .int)], .none],
    .tuple [.tuple [.str "ray", dear.D, free.D, .tuple (us.map .int), .int (4 + r4)], .none],
    .tuple [.tuple [.str "never", free.D, F.D, optI mo, .int 0], .tuple ((rowsL f1).map rwD)],
    .tuple [.tuple [.str "apart", dear.D, free.D, .tuple ((us ++ [9]).map .int)], .none],
    .tuple [.tuple [.str "alike", dear.D, dear.D], .tuple (sameL.map prS)],
    .tuple [.tuple [.str "lost", F.D, .tuple (([(0, 1), (2, 1000000000000)] : List (Int × Int)).map tiD), .int ((F.walk [0, 2] (0, 0, 0)).1 - (F.walk [1, 1000000000000] (0, 0, 0)).1)], .none],
    .tuple [.tuple [.str "losing", busyF.D, .tuple (([(4, 5), (0, 9)] : List (Int × Int)).map tiD), .tuple (([(4, 5)] : List (Int × Int)).map tiD)], .none],
    .tuple [.tuple [.str "thrifty", dear6.D, optI mo, .int m2], .tuple ((rowsL f2).map rwD)],
    .tuple [.tuple [.str "cheapest", .tuple ([dear, free].map Fm.D), .tuple (([2, 7] : List Int).map .int), .int 5, .tuple (([1, 1] : List Int).map .int)], .tuple (cheapT.map fun ns => .tuple (ns.map .int))]], S6, ?_, ?_, i6⟩
  · clear hq4 hm T1 hl1 hl2 T2 hb2 hs2 R2 hmx1 hmx2 q4 q5 q6 V W hu
    simp [n_law_claims, h46, busy_D, free_D, dear_D, setN, h1, h2, h3, h4, h5, h6, hmo, w1, w2, w3, w4, w5, w6, b1, g1, g2, x1, x2, hA, hB, hAB, hC, hCD, c1, c2, c3, c4, hset1, hset2, same_eq]
    exact ⟨⟨rfl, rfl⟩, ⟨⟨rfl, rfl⟩, rfl⟩, rfl⟩
  · intro d hd
    simp only [List.mem_cons, List.not_mem_nil, or_false] at hd
    rcases hd with rfl | rfl | rfl | rfl | rfl | rfl | rfl | rfl | rfl | rfl
    · exact T_ahead hu hul V W
    · exact T_loop hu hul
    · exact T_ray hu hul hq4.1 hq4.2
    · exact T_never V mo hm T1 hl1
    · exact T_apart hu hul
    · exact T_alike
    · exact T_lost V
    · exact T_losing
    · exact T_thrifty mo hm hl2 hmx2 T2 hb2 hs2
    · exact T_cheapest
end K26.Q
namespace K26.Q
open PySem L2
def rgtI : Ss := (.cons (.set 5 (.ix (.var 3) (.bin .Add (.int 1) (.callP 41 0 (.cons (.bin .Sub (.bi .len (.var 3)) (.int 1)) .nil))))) (.cons (.set 6 (.call 66 (.cons (.var 1) (.cons (.var 5) (.cons (.callP 67 0 (.cons (.call 65 (.cons (.var 1) (.cons (.var 5) .nil))) .nil)) .nil))))) (.cons (.ife (.isc true (.call 38 (.cons (.ix (.var 6) (.int 0)) (.cons (.ix (.var 6) (.int 1)) .nil))) (some false)) (.cons (.ret (.bl false)) .nil) .nil) .nil)))
theorem nz_pos : ∀ (k : Nat) (d : PyData), 1 ≤ nz k d
  | 0, _ => Nat.le_refl _
  | k + 1, .tuple xs => by simp only [nz]; omega
  | k + 1, .none => Nat.le_refl _
  | k + 1, .int _ => Nat.le_refl _
  | k + 1, .bool _ => Nat.le_refl _
  | k + 1, .str _ => Nat.le_refl _
  | k + 1, .list _ => Nat.le_refl _
  | k + 1, .dict _ => Nat.le_refl _
theorem goP_ne {f : PyData → List (List Nat)} {w : List Nat} {i : Nat} {xs : List PyData} (h : w ∈ goP f i xs) : ∃ j w', w = j :: w' := by
  obtain ⟨j, x, w', _, _, e⟩ := goP_mem i xs h
  exact ⟨_, _, e⟩
/-- one spoilt claim is not accepted -/
theorem rgt_step {d : PyData} (T : Told d) (a2 : Option Sl) (x : PyData) {S : Pl} (hS : PI S) (j4 j5 j6 : Option Sl) : ∃ k5 k6 S', forS (cfN 11) (.nm 4) rgtI x [some .pool, some (.d d), a2, some (.d (.list ((paths 6 d).map encP))), j4, j5, j6] S =
    some (.nx [some .pool, some (.d d), a2, some (.d (.list ((paths 6 d).map encP))), some (.d x), k5, k6] S') ∧ PI S' := by
  obtain ⟨⟨claim, cert, rfl, K⟩, hni⟩ := T
  have hp : paths 6 (.tuple [claim, cert]) = [] :: goP (paths 5) 0 [claim, cert] := rfl
  have hlen := paths_len 6 (.tuple [claim, cert])
  have hz := hni.2
  have hgl : (goP (paths 5) 0 [claim, cert]).length + 1 = nz 6 (.tuple [claim, cert]) := by rw [← hlen, hp]; rfl
  have h1c := nz_pos 5 claim
  have h1k := nz_pos 5 cert
  have hz2 : 3 ≤ nz 6 (.tuple [claim, cert]) := by simp only [nz, List.map_cons, List.map_nil, List.sum_cons, List.sum_nil]; omega
  obtain ⟨r, S1, e1, q1, i1⟩ := P41 10 hS (nz 6 (.tuple [claim, cert]) - 1) (by omega) (by omega)
  obtain ⟨m, rfl⟩ : ∃ m : Nat, r = m := ⟨r.toNat, by omega⟩
  have hm : m < (goP (paths 5) 0 [claim, cert]).length := by omega
  generalize hw : (goP (paths 5) 0 [claim, cert])[m] = w at *
  have hwm : w ∈ goP (paths 5) 0 [claim, cert] := by rw [← hw]; exact List.getElem_mem hm
  have hwp : w ∈ paths 6 (.tuple [claim, cert]) := by rw [hp]; exact List.mem_cons_of_mem _ hwm
  have hat : atI ((paths 6 (.tuple [claim, cert])).map encP) (1 + (m : Int)) = some (encP w) := by
    have := atI_nat ((paths 6 (.tuple [claim, cert])).map encP) (m + 1)
    rw [show ((m + 1 : Nat) : Int) = 1 + (m : Int) by omega] at this
    rw [this, hp, List.map_cons, List.getElem?_cons_succ, List.getElem?_map, List.getElem?_eq_getElem hm, hw]
    rfl
  obtain ⟨y, k, hAt, hnk, hk6, hnz⟩ := paths_at 6 _ hni.1 w hwp
  obtain ⟨j, w', rfl⟩ := goP_ne hwm
  have hwl := paths_le 6 _ _ hwp
  have e65 := F65 10 hAt
  obtain ⟨z, S2, e67, ho, i2⟩ := P67 9 i1 k y hnk (by omega) (by omega)
  obtain ⟨d', e66, _, _, hsub⟩ := F66 (j :: w') _ y z hAt 6 hni.1 (by omega) (10 - (j :: w').length)
  rw [show 10 - (j :: w').length + (j :: w').length + 1 = 11 by omega] at e66
  obtain ⟨xs, x0, x1, hx, hx0, rfl, hsp⟩ := hsub j w' rfl
  cases hx
  have hsp := hsp ho
  have hlen2 : ((paths 6 (.tuple [claim, cert])).map encP).length = nz 6 (.tuple [claim, cert]) := by rw [List.length_map, hlen]
  have hlen3 : ((paths 6 (.tuple [claim, cert])).length : Int) = nz 6 (.tuple [claim, cert]) := by rw [hlen]
  have acc : ∃ c k', (.tuple ([claim, cert].set j x1) : PyData) = .tuple [c, k'] ∧ Fn 11 38 [c, k'] = some (.bool false) := by
    match j, hx0 with
    | 0, hx0 =>
      cases hx0
      exact ⟨x1, cert, rfl, K.badc x1 hsp⟩
    | 1, hx0 =>
      cases hx0
      exact ⟨claim, x1, rfl, K.badk x1 hsp⟩
    | n + 2, hx0 => simp at hx0
  obtain ⟨c, k', ec, eacc⟩ := acc
  rw [ec] at e66
  refine ⟨some (.d (encP (j :: w'))), some (.d (.tuple [c, k'])), S2, ?_, i2⟩
  generalize nz 6 (PyData.tuple [claim, cert]) = N at *
  simp [forS, rgtI, hlen3, e1, hat, e65, e67, e66, eacc]
theorem rgt_inner {d : PyData} (T : Told d) (a2 : Option Sl) : ∀ (xs : List PyData) (S : Pl) (j4 j5 j6 : Option Sl), PI S → ∃ k4 k5 k6 S', forRun (forS (cfN 11) (.nm 4) rgtI) xs [some .pool, some (.d d), a2, some (.d (.list ((paths 6 d).map encP))), j4, j5, j6] S =
    some (.nx [some .pool, some (.d d), a2, some (.d (.list ((paths 6 d).map encP))), k4, k5, k6] S') ∧ PI S'
  | [], S, j4, j5, j6, h => ⟨j4, j5, j6, S, rfl, h⟩
  | x :: xs, S, j4, j5, j6, h => by
    obtain ⟨k5, k6, S1, e1, h1⟩ := rgt_step T a2 x h j4 j5 j6
    obtain ⟨m4, m5, m6, S2, e2, h2⟩ := rgt_inner T a2 xs S1 (some (.d x)) k5 k6 h1
    refine ⟨m4, m5, m6, S2, ?_, h2⟩
    unfold forRun
    rw [e1]
    exact e2
def rgtO : Ss := (.cons (.par [2, 3] (.cons (.bi .repr (.var 1)) (.cons (.call 64 (.cons (.var 1) .nil)) .nil))) (.cons (.ife (.boo .Or (.cons (.isc true (.call 38 (.cons (.ix (.var 1) (.int 0)) (.cons (.ix (.var 1) (.int 1)) .nil))) (some true)) (.cons (.isc true (.callK 38 (.cons (.ix (.var 1) (.int 1)) (.cons (.ix (.var 1) (.int 0)) .nil))) (some true)) .nil))) (.cons (.ret (.bl false)) .nil) .nil) (.cons (.for_ (.nm 4) (.rng1 (.int 30)) rgtI) (.cons (.ife (.cmp .NotEq (.bi .repr (.var 1)) (.var 2)) (.cons (.ret (.bl false)) .nil) .nil) .nil))))
theorem rgt_outer : ∀ (ds : List PyData), (∀ d ∈ ds, Told d) → ∀ (S : Pl) (j1 j2 j3 j4 j5 j6 : Option Sl), PI S → ∃ Γ' S', forRun (forS (cfN 11) (.nm 1) rgtO) ds [some .pool, j1, j2, j3, j4, j5, j6] S = some (.nx Γ' S') ∧ PI S'
  | [], _, S, j1, j2, j3, j4, j5, j6, h => ⟨_, S, rfl, h⟩
  | d :: ds, hT, S, j1, j2, j3, j4, j5, j6, h => by
    have T := hT d (by simp)
    obtain ⟨⟨claim, cert, hd, K⟩, hni⟩ := id T
    have h64 := F64 6 d hni.1 (by have := hni.2; omega) (by omega) 4
    have hsh : (biD .repr d) = some (.str d.shown) := by
      subst hd
      have := show_ok hni.1 (by omega) (by have := hni.2; omega)
      show (if _ then _ else _) = _
      rw [if_pos this]
    have hne : ∀ s : Str, cmpD .NotEq (.str s) (.str s) = some false := fun s => by
      simp only [cmpD]
      rw [if_pos (by simp [PyData.plain, PyData.depth, DL])]
      simp [PyData.eqv]
    obtain ⟨k4, k5, k6, S1, e1, h1⟩ := rgt_inner T (some (.d (.str d.shown))) ((rng 30).map .int) S j4 j5 j6 h
    obtain ⟨Γ', S2, e2, h2⟩ := rgt_outer ds (fun d hd => hT d (by simp [hd])) S1 (some (.d d)) (some (.d (.str d.shown))) (some (.d (.list ((paths 6 d).map encP)))) k4 k5 k6 h1
    refine ⟨Γ', S2, ?_, h2⟩
    have hr := rg_1 (j := 30) (by omega) (by omega)
    have hc : ixD d (.int 0) = some claim ∧ ixD d (.int 1) = some cert := by subst hd; exact ⟨rfl, rfl⟩
    have hg := K.good
    unfold forRun
    have st : forS (cfN 11) (.nm 1) rgtO d [some .pool, j1, j2, j3, j4, j5, j6] S = some (.nx [some .pool, some (.d d), some (.d (.str d.shown)), some (.d (.list ((paths 6 d).map encP))), k4, k5, k6] S1) := by
      simp only [forS, rgtO]
      generalize rgtI = RI at e1
      generalize (rng 30).map PyData.int = R30 at e1 hr
      generalize (paths 6 d).map encP = PP at e1 h64
      clear T hni hd hT K
      simp [hsh, h64, setN, hc.1, hc.2, hg, hr, e1, hne]
    rw [st]
    exact e2
theorem P68 {S : Pl} (hS : PI S) : ∃ S', Pf 12 68 [] S = some (.bool true, S') := by
  rw [Pf_run (D := d_law_right) 11 68 _ _ rfl rfl rfl]
  simp only [DefT.run, d_law_right, t_law_right]
  obtain ⟨ds, S1, h63, hT, i1⟩ := P63 hS
  obtain ⟨Γ', S2, e2, h2⟩ := rgt_outer ds hT S1 none none none none none none i1
  refine ⟨S2, ?_⟩
  simp only [rgtO, rgtI] at e2
  simp [n_law_right, h63, e2]
/-- THE PLAIN LAW -/
theorem plain_law (k : Int) : ∃ S, Fn 12 40 [.int k] = some (.list S) ∧ ∃ S', Pf 12 68 [] S = some (.bool true, S') := by
  obtain ⟨S, h1, h2⟩ := F40 11 k
  exact ⟨S, h1, P68 h2⟩
end K26.Q
set_option maxHeartbeats 4000000
namespace K26
open Q
open PySem PySem.Spec PyProof.Rows L2 PySem.W PySem.SeqAt
theorem c2_ev {c : Cf} {k : Int} (h0 : 0 ≤ k) (h1 : k < 1000) (Γ : Gm) (x : Option Sl) : ∃ i, evE c c2 (x :: some (.d (.int k)) :: Γ) [] = some (.int i, []) := by
  have m1 : mulB k k = true := by simp [mulB]; omega
  have m2 : mulB 47 k = true := by simp [mulB]
  have m3 : ∀ j, mulB 71107 j = true := fun j => by simp [mulB]
  refine ⟨(71107 * (k * k + 47 * k + 5)) % 2147483249, ?_⟩
  simp [binD, biD, m1, m2, m3]
theorem c3_ev {c : Cf} {f n : Int} (x y : Option Sl) : ∃ i, evE c c3 [x, y, some (.d (.int f)), some (.d (.int n))] [] = some (.int i, []) := by
  have m3 : ∀ j, mulB j 43051 = true := fun j => by simp [mulB]
  refine ⟨(f * 43051 + n) % 2147483249, ?_⟩
  simp [binD, biD, m3]
end K26
namespace K26
open PySem PySem.Spec PyProof.Rows L2 PySem.W PySem.SeqAt
theorem atI_in {ns : List Int} {k : Int} (h0 : 0 ≤ k) (h1 : k < ns.length) : ∃ n, atI ns k = some n := by
  obtain ⟨j, rfl⟩ := Int.eq_ofNat_of_zero_le h0
  have h : j < ns.length := by omega
  refine ⟨ns[j], ?_⟩
  simp [atI, ixN, h]
theorem cel_for {c : Cf} (a b : Option Sl) : ∀ (ds : List Int) (f : Int) (y : Option Sl), ∃ f' y', forRun (fun x Γ S => (bindG (.nm 3) x Γ S).bind fun q => evSs c (.cons (.set 2 c3) .nil) q.1 q.2) (ds.map .int) [a, b, some (.d (.int f)), y] [] = some (.nx [a, b, some (.d (.int f')), y'] [])
  | [], f, y => ⟨f, y, rfl⟩
  | d :: ds, f, y => by
    obtain ⟨i, hi⟩ := c3_ev (c := c) (f := f) (n := d) a b
    obtain ⟨f', y', h⟩ := cel_for a b ds i (some (.d (.int d)))
    refine ⟨f', y', ?_⟩
    rw [← h]
    show Option.bind (Option.bind ((evE c c3 [a, b, some (.d (.int f)), some (.d (.int d))] []).bind fun p => if 2 < 4 then some (Out.nx ([a, b, some (.d (.int f)), some (.d (.int d))].set 2 (some (.d p.1))) p.2) else none) fun o => o.thn fun Γ S => some (.nx Γ S)) _ = _
    rw [hi]
    rfl
theorem cel_run (c : Cf) (ns : List Int) {k : Int} (h0 : 0 ≤ k) (h1 : k < 1000) : ∃ i, celF c ns [some .fn, some (.d (.int k)), none, none] [] = some (.rt (.int i) []) := by
  have hc : condF c ns [some .fn, some (.d (.int k)), none, none] [] = some (.bool (decide (k < (ns.length : Int))), []) := rfl
  by_cases h : k < (ns.length : Int)
  · obtain ⟨n, hn⟩ := atI_in h0 h
    refine ⟨n, ?_⟩
    have hx : ixF ns (evE c (.var 1)) [some .fn, some (.d (.int k)), none, none] [] = some (.int n, []) := by
      show Option.map (fun n => (PyData.int n, ([] : Pl))) (atI ns k) = _
      rw [hn]
      rfl
    unfold celF andThen ifF retF
    rw [hc, decide_eq_true h]
    show Option.bind (Option.bind (Option.bind (ixF ns (evE c (.var 1)) [some .fn, some (.d (.int k)), none, none] []) fun p => some (Out.rt p.1 p.2)) _) _ = _
    rw [hx]
    rfl
  · obtain ⟨i, hi⟩ := c2_ev (c := c) h0 h1 [none, none] (some .fn)
    obtain ⟨f', y', hf⟩ := cel_for (c := c) (some .fn) (some (.d (.int k))) (ns.take 3) i none
    refine ⟨f', ?_⟩
    unfold celF andThen ifF
    rw [hc, decide_eq_false h]
    show Option.bind ((evE c c2 [some .fn, some (.d (.int k)), none, none] []).bind fun p => if 2 < 4 then some (Out.nx ([some .fn, some (.d (.int k)), none, none].set 2 (some (.d p.1))) p.2) else none) _ = _
    rw [hi]
    show Option.bind (forRun (fun x Γ S => (bindG (.nm 3) x Γ S).bind fun q => evSs c (.cons (.set 2 c3) .nil) q.1 q.2) ((ns.take 3).map .int) [some .fn, some (.d (.int k)), some (.d (.int i)), none] []) _ = _
    rw [hf]
    rfl
/-- what _law_cell promises -/
def cellS (K : PySem.W.Frag) : Sg := fun vs H Q => ∃ (a : Addr) (ns : List Int) (k : Int), vs = [V.ref a, .int k] ∧ SqL K H a (ns.map V.int) ∧ 0 ≤ k ∧ k < 1000 ∧ ∀ i H', Same H H' → Q (.int i) H'
/-- the script's object, as a thing that stays -/
theorem scr_of {K : PySem.W.Frag} {H : Hp} {a : Addr} {ns : List Int} (h : SqL K H a (ns.map V.int)) : ∃ kp : List (Addr × HO), (∀ p ∈ kp, H p.1 = some p.2) ∧ ∀ H' : Hp, (∀ p ∈ kp, H' p.1 = some p.2) → SqL K H' a (ns.map V.int) := by
  rcases h with (h | ⟨o, h⟩) | h
  · exact ⟨[(a, .lst (ns.map V.int))], fun p hp => by rw [List.mem_singleton.mp hp]; exact h, fun H' q => .inl (.inl (q _ List.mem_cons_self))⟩
  · exact ⟨[(a, .frz o (.lst (ns.map V.int)))], fun p hp => by rw [List.mem_singleton.mp hp]; exact h, fun H' q => .inl (.inr ⟨o, q _ List.mem_cons_self⟩)⟩
  · exact ⟨[], fun p hp => (by cases hp), fun H' q => .inr h⟩
section
variable {P : Program} {w : World} {K : PySem.W.Frag} {mg : Str → Option Value} {base : Heap}
theorem rep_start {tt : List (Addr × Str)} {H : Hp} {a : Addr} {kp : List (Addr × HO)} {M : Addr → Prop} (hM : ∀ b, M b → ∃ o, H b = some o) (hkM : ∀ p ∈ kp, ¬ M p.1) (N : List Str) (vs : List V) (Γ : Gm) (hk : ∀ p ∈ kp, H p.1 = some p.2) (hl : (L2.start N (.ref a :: vs)).length = (some Sl.fn :: Γ).length)
    (hg : ∀ (i : Nat) (s : Sl), Γ[i]? = some (some s) → ∃ d v, s = .d d ∧ (L2.start N (.ref a :: vs))[i + 1]? = some (some v) ∧ ∀ M H, At ⟨P, w, K⟩ M H v d) :
    Rep ⟨P, w, K⟩ { M := M, base := fun _ => False, pl := none, T := [], F := { tt := tt, fa := some a, kp := kp } } H (L2.start N (.ref a :: vs)) (some .fn :: Γ) [] := by
  refine ⟨hM, fun a h => h.elim, fun a h => h.elim, hl, fun i x h => ?_, fun i h => ?_, fun i h => ?_, fun p hp => ⟨hkM p hp, hk p hp⟩, ⟨fun _ => 0, fun i ⟨s, h, z⟩ => ?_, fun i j ⟨s, h, z⟩ => ?_, fun i xs h => ?_, fun i xs h => ?_⟩, rfl⟩
  · cases i with
    | zero => cases h
    | succ j =>
      obtain ⟨d, v, e, h1, h2⟩ := hg j _ h
      cases e
      exact ⟨v, h1, h2 _ _⟩
  · cases i with
    | zero => cases h
    | succ j => obtain ⟨d, v, e, h1, h2⟩ := hg j _ h; cases e
  · cases i with
    | zero => exact ⟨a, rfl, start_get rfl⟩
    | succ j => obtain ⟨d, v, e, h1, h2⟩ := hg j _ h; cases e
  · cases i with
    | zero => cases h; cases z
    | succ j => obtain ⟨d, v, e, h1, h2⟩ := hg j _ h; subst e; cases z
  · cases i with
    | zero => cases h; cases z
    | succ j => obtain ⟨d, v, e, h1, h2⟩ := hg j _ h; subst e; cases z
  · cases i with
    | zero => cases h
    | succ j => obtain ⟨d, v, e, h1, h2⟩ := hg j _ h; cases e
  · cases i with
    | zero => cases h
    | succ j => obtain ⟨d, v, e, h1, h2⟩ := hg j _ h; cases e
theorem cell_ok {c : Cf} {tt : List (Addr × Str)} {lev : Nat} {x qual : Str} {st : Stmt} {f : Addr} {fd : FuncData} (L : Lv P w K mg base c tt lev) (hl : c.lf = none) (Fn : L2.Fun K x qual st f fd) (S : FnScope celN ["_law_script", "_law_k"] (L2.defScope st))
    (hs : L2.defScope st = celS) (p : Nat → Pos) (hb : L2.defBody st = celB p) : FnG P w K mg base (lev + 4) f fd ["_law_script", "_law_k"] (cellS K) := by
  refine fng_of (k := lev + 3) Fn S (fun vs H Q ⟨a, ns, k, e, _⟩ => by rw [e]; rfl) fun cdv A outer s H vs Q hcd hfd gd hr ⟨a, ns, k, e, sq, h0, h1, kq⟩ => ?_
  subst e
  obtain ⟨kp, hk, hS⟩ := scr_of sq
  have o0 := (L.mono (show lev ≤ lev + 3 by omega)).ok0 (F := { tt := tt, fa := some a, kp := kp }) (cd := cdv) (outer := outer) (H := H) (qual := qual) (f := f) (s := s) false S gd hr hl
  have ox := o0.okx rfl
  rw [hb]
  rw [hs] at *
  refine ⟨_, cel_pss (ns := ns) ox ⟨a, rfl, hS⟩ p, ?_⟩
  obtain ⟨i, hi⟩ := cel_run c ns h0 h1
  refine ⟨_, _, [], _, rfl, rep_start (M := fun _ => False) (fun _ h => h.elim) (fun _ _ h => h) celN [.int k] [some (.d (.int k)), none, none] hk rfl (fun j s h => ?_), hi, fun v W' H' x tr b q av => ?_⟩
  · match j, h with
    | 0, h => cases h; exact ⟨_, _, rfl, rfl, fun _ _ => .int k⟩
    | 1, h => cases h
    | 2, h => cases h
    | n + 3, h => cases h
  · cases av
    exact kq i H' fun b o h => x.kp b o (fun z => z) (.inr fun z => z) h
end
end K26
namespace K26
open PySem PySem.Spec PyProof.Rows L2 PySem.W PySem.SeqAt
/-! ### law -/
def lawC : Scope := { kind := .function, names := [(".0", .local), ("_law_k", .local), ("_law_right", .globalImplicit), ("_law_pool", .globalImplicit), ("_law_cell", .globalImplicit), ("_law_script", .free)], isGenerator := false, isCoroutine := false }
def lawE (p : Nat → Pos) : Expr := .Call (.Name "_law_right" (p 1)) [.Call (.Name "_law_pool" (p 2)) [.Call (.Name "_law_cell" (p 3)) [.Name "_law_script" (p 4), .Name "_law_k" (p 5)] [] (p 6)] [] (p 7)] [] (p 8)
def lawI (p : Nat → Pos) : Expr := .Call (.Name "range" (p 10)) [.Call (.Name "max" (p 11)) [.Constant (.int 2) 0 (p 12), .Call (.Name "min" (p 13)) [.Call (.Name "len" (p 14)) [.Name "_law_script" (p 15)] [] (p 16), .Constant (.int 4) 0 (p 17)] [] (p 18)] [] (p 19)] [] (p 20)
def lawB (p : Nat → Pos) : List Stmt := [.Return (some (.Call (.Name "all" (p 0)) [.ListComp (lawE p) [⟨.Name "_law_k" (p 9), lawI p, [], 0⟩] lawC (p 21)] [] (p 22))) (p 23)]
def lawN : List Str := ["_law_script", "_law_k"]
def lawS : Scope := { kind := .function, names := [("_law_script", .cell), ("all", .globalImplicit), ("range", .globalImplicit), ("max", .globalImplicit), ("min", .globalImplicit), ("len", .globalImplicit)], isGenerator := false, isCoroutine := false, more := [("fast", .str "_law_script"), ("fast", .str "_law_k")] }
abbrev lawK : Ck := ⟨lawS, lawN, true, false⟩
def mxF (c : Cf) (ns : List Int) : Gm → Pl → Re := bi2 (evE c (.int 2)) (bi2 (lenF ns) (evE c (.int 4)) (bjD .mn)) (bjD .mx)
def rgF (c : Cf) (ns : List Int) : Gm → Pl → Option (List PyData × Pl) := fun Γ S => (mxF c ns Γ S).bind fun p => (rgD [p.1]).map fun xs => (xs, p.2)
def lawTe (X : Cx) (F : Fx) (g40 : List PyData → Option PyData) (g68 : List PyData → Pl → Option (PyData × Pl)) : TE :=
  tCB (poolS (gl X) F.tt g68) (tCons (tCB (pureS (gl X) g40) (tCons (tCB (cellS X.K) (tCons (tVar 0) (tCons (tVar 1) tNil))) tNil)) tNil)
def lawT (X : Cx) (F : Fx) (c : Cf) (ns : List Int) (g40 : List PyData → Option PyData) (g68 : List PyData → Pl → Option (PyData × Pl)) : TS :=
  tSeq (tRet (tCB (rBi (gl X) .all) (tCons (tLc (lI (gl X) F (rgF c ns)) (gName 1) tYes (lawTe X F g40 g68) [1]) tNil))) tNext
structure CelH (P : Program) (w : World) (K : PySem.W.Frag) (mg : Str → Option Value) (base : Heap) (lev : Nat) (fc : Addr) (fdc : FuncData) : Prop where
  at_ : mg "_law_cell" = some (.ref fc)
  kp : keepIn K (.ref fc) = true
  bnd : Binds K fdc ["_law_script", "_law_k"] []
  fn : FnG P w K mg base lev fc fdc ["_law_script", "_law_k"] (cellS K)
theorem law_pss {X : Cx} {c : Cf} {F : Fx} {lev : Nat} {ns : List Int} {fc : Addr} {fdc : FuncData} {g40 : List PyData → Option PyData} {g68 : List PyData → Pl → Option (PyData × Pl)} (o : Okx X lawK c F lev) (sc : Scr X.K F ns) (C : CelH X.prog X.w X.K X.mg X.base lev fc fdc)
    (h40 : c.fn 40 = some g40) (h68 : c.pf 68 = some g68) (p : Nat → Pos) : PSs X (lawB p) (lawT X F c ns g40 g68) := by
  have hv : lawK.vis 0 "_law_script" = true := by rfl
  have e2 : PE X (.Constant (.int 2) 0 (p 12)) (lE (gl X) F (evE c (.int 2))) := (sE (.int 2) X lawK c F lev o _ (by rfl)).1
  have e4 : PE X (.Constant (.int 4) 0 (p 17)) (lE (gl X) F (evE c (.int 4))) := (sE (.int 4) X lawK c F lev o _ (by rfl)).1
  have mn : PE X (.Call (.Name "min" (p 13)) [.Call (.Name "len" (p 14)) [.Name "_law_script" (p 15)] [] (p 16), .Constant (.int 4) 0 (p 17)] [] (p 18)) (lE (gl X) F (bi2 (lenF ns) (evE c (.int 4)) (bjD .mn))) :=
    peW (bj_pe o.toOk0.bx .mn (o.gl_ (x := "min") (by rfl)).1 (len_pe o sc hv (by rfl) _ _ _) e4 (by rfl) (by rfl)) lE_bj
  have mx : PE X (.Call (.Name "max" (p 11)) [.Constant (.int 2) 0 (p 12), .Call (.Name "min" (p 13)) [.Call (.Name "len" (p 14)) [.Name "_law_script" (p 15)] [] (p 16), .Constant (.int 4) 0 (p 17)] [] (p 18)] [] (p 19)) (lE (gl X) F (mxF c ns)) :=
    peW (bj_pe o.toOk0.bx .mx (o.gl_ (x := "max") (by rfl)).1 e2 mn (by rfl) (by rfl)) lE_bj
  have rg : PI X (.Name "_law_k" (p 9)) (lawI p) (lI (gl X) F (rgF c ns)) := piW (pi_range1 (o.toOk0.gl_ (x := "range") (by rfl)).1 (o.blt "range" (by decide)) (pa1 mx (by rfl)) (star1 (by rfl))) lI_rng1
  have ob := fun (s : Shared) (H : Hp) (C : Addr) (cl : List (Str × Addr)) (fp : List Addr) => o.toOk0.blk lawC s H C cl fp
  have lv := fun (s : Shared) (H : Hp) (C : Addr) (cl : List (Str × Addr)) (fp : List Addr) => loc_of (ob s H C cl fp) (i := 1) (x := "_law_k") (by rfl)
  have el : ∀ (s : Shared) (H : Hp) (C : Addr) (cl : List (Str × Addr)) (fp : List Addr), PE (X.blk s H lawC (compEnvC lawC cl C X.env) fp) (lawE p) (lawTe X F g40 g68) := fun s H C1 cl fp => by
    have B := ob s H C1 cl fp
    obtain ⟨x40, f40, fd40, ps40, q1, q2, q3, q4, q5, _⟩ := B.fns 40 g40 h40
    obtain rfl : "_law_pool" = x40 := Option.some.inj q1
    obtain ⟨x68, f68, fd68, ps68, r1, r2, r3, r4, r5⟩ := B.pfs 68 g68 h68
    obtain rfl : "_law_right" = x68 := Option.some.inj r1
    have cc := FnG.cr (X := X.blk s H lawC (compEnvC lawC cl C1 X.env) fp) C.fn B.rm B.gd C.bnd
    have pc := call_pe (p := p 3) (pos := p 6) cc (B.gl_ (x := "_law_cell") (by rfl)).1 C.at_ C.kp (pa2 (B.var (i := 0) (x := "_law_script") (by rfl) (p 4)) (B.var (i := 1) (x := "_law_k") (by rfl) (p 5)) (by rfl) (by rfl)) (by rfl) (star_cons (by rfl)) (by rfl)
    have pp := call_pe (p := p 2) (pos := p 7) (FnG.cr q5 B.rm B.gd q4) (B.gl_ (x := "_law_pool") (by rfl)).1 q2 q3 (pa1 pc (by rfl)) (by rfl) (star_cons (by rfl)) (by rfl)
    exact call_pe (p := p 1) (pos := p 8) (FnG.cr r5 B.rm B.gd r4) (B.gl_ (x := "_law_right") (by rfl)).1 r2 r3 (pa1 pp (by rfl)) (by rfl) (star_cons (by rfl)) (by rfl)
  have bo : BlkOk X.N X.env.scope lawC (ownP lawK.N [1]) := blk_ok o.toOk0 (by rfl)
  have lc := pe_lc (pos := p 21) o.calm o.nd rg bo (fun s H C1 cl fp => pg_name (ob s H C1 cl fp).nd (lv s H C1 cl fp).1 (lv s H C1 cl fp).2.1 (lv s H C1 cl fp).2.2) (fun s H C1 cl fp => pts_nil) el (no_set (by rfl) X.env)
  refine pss_cons (ps_ret (bi_pe o.toOk0.bx .all (o.gl_ (x := "all") (by rfl)).1 lc (by rfl))) pss_nil
end K26
namespace K26
open PySem PySem.Spec PyProof.Rows L2 PySem.W PySem.SeqAt
theorem tabs_grow {T : List (Addr × Str)} {H : Hp} {D : Addr} {acc acc' : List V} (t : LamX.Tabs T H) (h : H D = some (.lst acc)) : LamX.Tabs T (upd H D (.lst acc')) := fun p hp => by
  have ne : ∀ {b o}, H b = some o → (∀ xs, o ≠ .lst xs) → b ≠ D := fun {b o} hb n z => by rw [z, h] at hb; cases hb; exact n _ rfl
  obtain ⟨ps, t1, t2, t3⟩ := t p hp
  refine ⟨ps, by rw [upd_ne (ne t1 fun _ z => nomatch z)]; exact t1, t2, fun pos cv hc => ?_⟩
  obtain ⟨c, e1, e2⟩ := t3 pos cv hc
  exact ⟨c, e1, by rw [upd_ne (ne e2 fun xs z => by unfold LamX.CodeO at z; cases z)]; exact e2⟩
/-- what the plain law gives for a cell -/
def Good (g40 : List PyData → Option PyData) (g68 : List PyData → Pl → Option (PyData × Pl)) : Prop := ∀ k : Int, ∃ i j l : Int, g40 [.int k] = some (.list [.int i, .int j, .int l]) ∧ ∃ S', g68 [] [.int i, .int j, .int l] = some (.bool true, S')
theorem rg_ev (c : Cf) (ns : List Int) (Γ : Gm) : ∃ m : Nat, (m = 2 ∨ m = 3 ∨ m = 4) ∧ rgF c ns (some .fn :: Γ) [] = some ((List.range m).map fun (i : Nat) => PyData.int i, []) := by
  have h : mxF c ns (some .fn :: Γ) [] = some (.int (max 2 (min (ns.length : Int) 4)), []) := rfl
  refine ⟨(max 2 (min (ns.length : Int) 4)).toNat, by omega, ?_⟩
  unfold rgF
  rw [h]
  show Option.map _ (if _ then _ else _) = _
  rw [if_pos (by omega)]
  rfl
section
variable {X : Cx} {c : Cf} {ns : List Int} {g40 : List PyData → Option PyData} {g68 : List PyData → Pl → Option (PyData × Pl)} {P0 a : Addr} {z : Str}
theorem scr_of2 {K : PySem.W.Frag} {H : Hp} {a : Addr} {ns : List Int} (h : SqL K H a (ns.map V.int)) : ∃ kp : List (Addr × HO), (∀ p ∈ kp, H p.1 = some p.2 ∧ ∀ ps, p.2 ≠ .tbl ps) ∧ ∀ H' : Hp, (∀ p ∈ kp, H' p.1 = some p.2) → SqL K H' a (ns.map V.int) := by
  rcases h with (h | ⟨o, h⟩) | h
  · exact ⟨[(a, .lst (ns.map V.int))], fun p hp => by rw [List.mem_singleton.mp hp]; exact ⟨h, fun ps z => nomatch z⟩, fun H' q => .inl (.inl (q _ List.mem_cons_self))⟩
  · exact ⟨[(a, .frz o (.lst (ns.map V.int)))], fun p hp => by rw [List.mem_singleton.mp hp]; exact ⟨h, fun ps z => nomatch z⟩, fun H' q => .inl (.inr ⟨o, q _ List.mem_cons_self⟩)⟩
  · exact ⟨[], fun p hp => (by cases hp), fun H' q => .inr h⟩
theorem lawT_of {H : Hp} (sq : SqL X.K H a (ns.map V.int)) (tb : LamX.Tabs [(P0, z)] H) (hG : Good g40 g68) : ∃ kp : List (Addr × HO), Scr X.K { tt := [(P0, z)], fa := some a, kp := kp } ns ∧
    ∀ D : Ends, (∀ H', D.rt (.bl true) H') → lawT X { tt := [(P0, z)], fa := some a, kp := kp } c ns g40 g68 D (L2.start lawN [.ref a]) H := by
  obtain ⟨kp, hk, hS⟩ := scr_of2 sq
  refine ⟨kp, ⟨a, rfl, hS⟩, fun Dn hD => ?_⟩
  obtain ⟨ps0, hP0, _⟩ := tb (P0, z) List.mem_cons_self
  have hP0 : H P0 = some (.tbl ps0) := hP0
  obtain ⟨m, hm, hrg⟩ := rg_ev c ns [none]
  let W : Wx := { M := fun b => b = P0, base := fun _ => False, pl := none, T := [], F := { tt := [(P0, z)], fa := some a, kp := kp } }
  have hkM : ∀ p ∈ kp, ¬ W.M p.1 := fun p hp e => by
    obtain ⟨h1, h2⟩ := hk p hp
    have e : p.1 = P0 := e
    rw [e, hP0] at h1
    exact h2 _ (Option.some.inj h1).symm
  have R : Rep (gl X) W H (L2.start lawN [.ref a]) [some .fn, none] [] := rep_start (P := X.prog) (w := X.w) (K := X.K) (M := fun b => b = P0) (fun b e => by have e : b = P0 := e; subst e; exact ⟨_, hP0⟩) hkM lawN [] [none] (fun p hp => (hk p hp).1) rfl (fun i s h => by
    match i, h with
    | 0, h => cases h
    | n + 1, h => cases h)
  refine ⟨W, _, [], _, [], rfl, R, hrg, fun J H1 k1 R1 wk => fun Dl hDl => ?_⟩
  have t1 : LamX.Tabs [(P0, z)] H1 := tb.ext fun b o h => k1 b o (fun q => q) h
  let Iv : Nat → Hp → Prop := fun i H' => i ≤ m ∧ H' Dl = some (.lst (List.replicate i (V.bl true))) ∧ LamX.Tabs [(P0, z)] H' ∧ ∀ b o, b ≠ P0 → b ≠ Dl → H1 b = some o → H' b = some o
  have hlen : ((List.range m).map fun (i : Nat) => PyData.int i).length = m := by simp
  refine ⟨fun i n H' => n = m - i ∧ Iv i H', ⟨_, rfl, Nat.zero_le _, upd_same, t1.ext fun b o h => by rw [upd_ne (fun e => by rw [e, hDl] at h; cases h)]; exact h, fun b o _ hb h => by rw [upd_ne hb]; exact h⟩, ?_⟩
  rintro i n H' ⟨rfl, hi, hD', tb', kp'⟩
  obtain ⟨ps1, hP1, _⟩ := tb' (P0, z) List.mem_cons_self
  have hP1 : H' P0 = some (.tbl ps1) := hP1
  have nDP : Dl ≠ P0 := fun e => by rw [e, hP1] at hD'; cases hD'
  let M2 : Addr → Prop := fun b => b = P0 ∨ b = Dl
  have fu : Fut W.M M2 H1 H' := fun b o nb h => by
    have nb : ¬ b = P0 := nb
    have nd : b ≠ Dl := fun e => by rw [e, hDl] at h; cases h
    exact ⟨kp' b o nb nd h, fun q => q.elim nb nd⟩
  have tr2 : Trk M2 H' := fun b hb => by
    rcases hb with rfl | rfl
    · exact ⟨_, hP1⟩
    · exact ⟨_, hD'⟩
  by_cases him : i < m
  · refine .inr ⟨wk.go i M2 H' fu (by rw [hlen]; exact him), Iv (i + 1), fun H'' q => ⟨_, by omega, rfl, q⟩, fun x H2 y => ?_⟩
    obtain ⟨s2, a2⟩ := wk.yld i M2 H' x H2 (.int i) fu tr2 (by simp [him]) y
    obtain rfl : x = .int i := by cases a2; rfl
    have sq2 : SqL X.K H2 a (ns.map V.int) := hS H2 fun p hp => by
      obtain ⟨n1, h1⟩ := R1.kept p hp
      exact s2 _ _ (kp' _ _ n1 (fun e => by rw [e, hDl] at h1; cases h1) h1)
    refine ⟨rfl, ?_⟩
    refine ⟨.ref a, rfl, .int i, rfl, a, ns, i, rfl, sq2, by omega, by omega, fun k H3 s3 => ?_⟩
    obtain ⟨i1, i2, i3, e40, S', e68⟩ := hG k
    refine ⟨fun b => ∃ o, H3 b = some o, [.int k], _, fun b h => h, .cons (.int k) .nil, e40, fun v H4 s4 a4 => ?_⟩
    cases a4 with
    | lst nq hq zq tq =>
    rename_i q xs
    have hq3 : H3 q = none := by
      cases e : H3 q with
      | none => rfl
      | some o => exact absurd ⟨o, e⟩ nq
    have up : ∀ b o, H' b = some o → H4 b = some o := fun b o h => s4 b o (s3 b o (s2 b o h))
    have nq' : ∀ b o, H' b = some o → b ≠ q := fun b o h e => by
      have := s3 b o (s2 b o h)
      rw [e, hq3] at this
      cases this
    have tb4 : LamX.Tabs [(P0, z)] H4 := tb'.ext up
    let W3 : Wx := { M := fun b => b = P0 ∨ b = Dl ∨ b = q, base := fun b => b = P0 ∨ b = q, pl := some q, T := [(P0, z)], F := { tt := [(P0, z)] } }
    have tr3 : Trk W3.M H4 := fun b hb => by
      rcases hb with rfl | rfl | rfl
      · exact ⟨_, up _ _ hP1⟩
      · exact ⟨_, up _ _ hD'⟩
      · exact ⟨_, hq⟩
    have t3 : AtL (gl X) W3.M H4 xs [.int i1, .int i2, .int i3] := by
      cases tq with | cons x1 tq =>
      cases tq with | cons x2 tq =>
      cases tq with | cons x3 tq =>
      cases tq
      cases x1
      cases x2
      cases x3
      exact .cons (.int _) (.cons (.int _) (.cons (.int _) .nil))
    have po : PoolOk (gl X) W3 H4 [.int i1, .int i2, .int i3] q := ⟨.inr rfl, tb4, fun t ht => .inl (by rw [List.mem_singleton.mp ht]), ⟨xs, hq, t3⟩, zq, rfl⟩
    refine ⟨W3, [], [], _, .bool true, S', q, rfl, rfl, rfl, tr3, fun b hb => hb.elim .inl fun h => .inr (.inr h), po, .nil, e68, fun v H5 k5 po5 a5 => ?_⟩
    obtain rfl : v = .bl true := by cases a5; rfl
    have stay : ∀ b o, b ≠ P0 → b ≠ q → H4 b = some o → H5 b = some o := fun b o n1 n2 h => k5 b o (fun c => by
      rcases c with c | ⟨t, ht, c⟩
      · exact n2 c
      · rw [List.mem_singleton.mp ht] at c
        exact n1 c.symm) h
    have hD5 : H5 Dl = some (.lst (List.replicate i (V.bl true))) := stay _ _ nDP (nq' _ _ hD') (up _ _ hD')
    refine ⟨_, hD5, ?_, by omega, ?_, tabs_grow po5.tabs hD5, fun b o n1 n2 h => ?_⟩
    · have : sizeLine = 16777216 := by decide
      simp
      omega
    · rw [upd_same, List.replicate_succ']
    · rw [upd_ne n2]
      have h' := kp' b o n1 n2 h
      exact stay b o n1 (nq' _ _ h') (up _ _ h')
  · obtain rfl : i = m := by omega
    refine .inl ⟨by have := wk.stop M2 H' fu; rwa [hlen] at this, ?_⟩
    refine ⟨fun _ => False, .ref Dl, .list (List.replicate i (.bool true)), .bool true, rfl, fun b h => h.elim, .of (.lst (fun h => h) hD' ?_ ?_), ?_, fun w H'' s a => ?_⟩
    · have : sizeLine = 16777216 := by decide
      simp
      omega
    · have : ∀ n : Nat, AtL (gl X) (fun _ => False) H' (List.replicate n (V.bl true)) (List.replicate n (PyData.bool true)) := fun n => by
        induction n with
        | zero => exact .nil
        | succ n ih => exact .cons (.bl true) ih
      exact this i
    · rcases hm with rfl | rfl | rfl <;> rfl
    · cases a
      exact hD H''
end
end K26
namespace K26
open PySem PySem.Spec PyProof.Rows L2 PySem.W PySem.SeqAt
def lawSg (K : PySem.W.Frag) (P0 : Addr) (z : Str) : Sg := fun vs H Q => ∃ (a : Addr) (ns : List Int), vs = [V.ref a] ∧ SqL K H a (ns.map V.int) ∧ LamX.Tabs [(P0, z)] H ∧ ∀ H', Q (.bl true) H'
section
variable {P : Program} {w : World} {K : PySem.W.Frag} {mg : Str → Option Value} {base : Heap}
theorem law_ok {c : Cf} {P0 : Addr} {z : Str} {lev : Nat} {x qual : Str} {st : Stmt} {f fc : Addr} {fd fdc : FuncData} {g40 : List PyData → Option PyData} {g68 : List PyData → Pl → Option (PyData × Pl)} (L : Lv P w K mg base c [(P0, z)] lev) (hl : c.lf = none)
    (Fn : L2.Fun K x qual st f fd) (S : FnScope lawN ["_law_script"] (L2.defScope st)) (hs : L2.defScope st = lawS) (p : Nat → Pos) (hb : L2.defBody st = lawB p) (C : CelH P w K mg base (lev + 3) fc fdc) (h40 : c.fn 40 = some g40) (h68 : c.pf 68 = some g68) (hG : Good g40 g68) :
    FnG P w K mg base (lev + 4) f fd ["_law_script"] (lawSg K P0 z) := by
  refine fng_of (k := lev + 3) Fn S (fun vs H Q ⟨a, ns, e, _⟩ => by rw [e]; rfl) fun cdv A outer s H vs Q hcd hfd gd hr ⟨a, ns, e, sq, tb, kq⟩ => ?_
  subst e
  obtain ⟨kp, sc, run⟩ := lawT_of (X := (cxOf L2.CX0 P w K mg base lawN qual (L2.defScope st) f cdv A outer s H L2.E0).nox) (c := c) sq tb hG
  have o0 := (L.mono (show lev ≤ lev + 3 by omega)).ok0 (F := { tt := [(P0, z)], fa := some a, kp := kp }) (cd := cdv) (outer := outer) (H := H) (qual := qual) (f := f) (s := s) false S gd hr hl
  have ox := o0.okx rfl
  rw [hb]
  rw [hs] at *
  exact ⟨_, law_pss ox sc C h40 h68 p, run _ kq⟩
end
end K26
namespace K26
open PySem PySem.Spec PyProof.Rows L2 PySem.W PySem.SeqAt
def celPos (i : Nat) : Pos := ((L2.defBody (topS 51)).flatMap (psS2 3)).getD i ⟨0, 0, 0, 0⟩
where
  psE2 : Nat → Expr → List Pos
    | 0, _ => []
    | n + 1, e => match e with
      | .Name _ p => [p]
      | .Constant _ _ p => [p]
      | .BinOp a _ b p => psE2 n a ++ psE2 n b ++ [p]
      | .Call f as _ p => psE2 n f ++ as.flatMap (psE2 n) ++ [p]
      | .Compare a _ bs p => psE2 n a ++ bs.flatMap (psE2 n) ++ [p]
      | .Subscript a b p => psE2 n a ++ psE2 n b ++ [p]
      | .Slice _ (some a) _ p => psE2 n a ++ [p]
      | .ListComp e gs _ p => psE2 n e ++ gs.flatMap (fun g => psE2 n g.target ++ psE2 n g.iter) ++ [p]
      | _ => []
  psS2 : Nat → Stmt → List Pos
    | 0, _ => []
    | n + 1, s => match s with
      | .If c a _ p => psE2 12 c ++ a.flatMap (psS2 n) ++ [p]
      | .Assign ts e p => ts.flatMap (psE2 12) ++ psE2 12 e ++ [p]
      | .For t e b _ p => psE2 12 t ++ psE2 12 e ++ b.flatMap (psS2 n) ++ [p]
      | .Return (some e) p => psE2 12 e ++ [p]
      | _ => []
def lawPos (i : Nat) : Pos := ((L2.defBody (topS 81)).flatMap (celPos.psS2 3)).getD i ⟨0, 0, 0, 0⟩
theorem celShape : L2.defBody (topS 51) = celB celPos := by kernel_rfl
theorem celScope : L2.defScope (topS 51) = celS := by kernel_rfl
theorem celFn : FnScope celN ["_law_script", "_law_k"] (L2.defScope (topS 51)) := scB_ok (by kernel_rfl)
theorem celBn {K : PySem.W.Frag} {a : Addr} {fd : FuncData} (F : FD K 51 "_law_cell" a fd) : Binds K fd ["_law_script", "_law_k"] [] := F.bindsN fun _ _ _ _ _ _ us hl => match us, hl with | [_, _], _ => rfl
theorem lawShape : L2.defBody (topS 81) = lawB lawPos := by kernel_rfl
theorem lawScope : L2.defScope (topS 81) = lawS := by kernel_rfl
theorem lawFn : FnScope lawN ["_law_script"] (L2.defScope (topS 81)) := scB_ok (by kernel_rfl)
theorem lawBn {K : PySem.W.Frag} {a : Addr} {fd : FuncData} (F : FD K 81 "law" a fd) (s : Shared) (u : Value) : BindsTo s fd ⟨[u], []⟩ [("_law_script", u)] :=
  FunD.bindsA (ps := ["_law_script"]) F (fun _ _ _ _ _ _ us hl => match us, hl with | [_], _ => rfl) s [u] rfl
theorem good12 : ∃ g40 g68, (cfN 12).fn 40 = some g40 ∧ (cfN 12).pf 68 = some g68 ∧ Good g40 g68 := by
  obtain ⟨S, h1, _⟩ := Q.F40 11 0
  obtain ⟨g40, e40, _⟩ := Option.bind_eq_some_iff.mp h1
  obtain ⟨S', h2⟩ := Q.P68 (S := [.int 0, .int 0, .int 0]) ⟨0, 0, 0, rfl, Int.le_refl 0⟩
  obtain ⟨g68, e68, _⟩ := Option.bind_eq_some_iff.mp h2
  refine ⟨g40, g68, e40, e68, fun k => ?_⟩
  obtain ⟨S, h3, i1⟩ := Q.F40 11 k
  obtain ⟨g, z1, z2⟩ := Option.bind_eq_some_iff.mp h3
  rw [e40] at z1
  cases z1
  obtain ⟨S', h4⟩ := Q.P68 i1
  obtain ⟨a, b, c, rfl, _⟩ := i1
  obtain ⟨g, y1, y2⟩ := Option.bind_eq_some_iff.mp h4
  rw [e68] at y1
  cases y1
  exact ⟨a, b, c, z2, S', y2⟩
section
variable {P : Program} {w : World} {K : PySem.W.Frag} {mg : Str → Option Value} {h0 h1 base : Heap}
/-- THE WALK -/
theorem the_walk (X : K.In h0) (G : h0.Ns mainGlobals mg) (c : Says w h1 K) : ∃ fd, (∀ (s : Shared) (u : Value), BindsTo s fd ⟨[u], []⟩ [("_law_script", u)]) ∧ mg "law" = some (.ref (He.ga K "law")) ∧
    ∀ base : Heap, LamX.TabB base mg (ccOf K) (tbOf K) → FnG P w K mg base 52 (He.ga K "law") fd ["_law_script"] (lawSg K (tbOf K) lamS) := by
  obtain ⟨fd, F⟩ := hd_def c (show 69 < 70 by decide)
  have F : FD K 81 "law" (He.ga K "law") fd := F
  obtain ⟨fdc, Fc⟩ := hd_def c (show 39 < 70 by decide)
  have Fc : FD K 51 "_law_cell" (He.ga K "_law_cell") fdc := Fc
  refine ⟨fd, lawBn F, hd_mg X G c (show 69 < 70 by decide), fun base TB => ?_⟩
  have Hf : HeadF P w K mg base [(tbOf K, lamS)] := headF X G c lamS rfl TB
  have L12 := lvN Hf 12
  have C : CelH P w K mg base (48 + 3) (He.ga K "_law_cell") fdc := ⟨hd_mg X G c (show 39 < 70 by decide), Fc.kp, celBn Fc, (cell_ok (lvN Hf 0) (cfN_lf 0) (fun_of Fc) celFn celScope celPos celShape).mono (by omega)⟩
  obtain ⟨g40, g68, e40, e68, hG⟩ := good12
  exact law_ok L12 (cfN_lf 12) (fun_of F) lawFn lawScope lawPos lawShape C e40 e68 hG
end
end K26
namespace K26
open PySem PySem.Spec PyProof.Rows L2 PySem.W PySem.SeqAt
section
variable {P : Program} {w : World} {K : PySem.W.Frag} {mg mb : Str → Option Value} {fa a c T : Addr} {fd : FuncData} {z : Str} {s1 : Shared} {vs : List Value} {ns : List Int}
/-- what is left of the heap when the script's list and the table are hidden -/
theorem end_core {H : Hp} (KX : K.In s1.heap) (hns : s1.heap.Ns mainGlobals mg) (hb : s1.heap.Ns builtinsNs mb) (hbb : ∀ x : Str, x ≠ "__name__" → mb x = bootBuiltins x) (hlim : s1.heap.NoLimit) (hg : s1.gens = #[])
    (hT : s1.heap.get? T = some { cls := .none, data := .fields #[] }) (nT : K.lookup T = none) (hh : PySem.W.codeHdIn K c T = true)
    (hbm : ∃ (bm : Addr) (ob : Obj), mg "__builtins__" = some (.ref bm) ∧ bm ≠ builtinsNs ∧ s1.heap.get? bm = some ob ∧ ob.cls = .type "module" ∧ ob.dict = some builtinsNs ∧ ob.data = .plain)
    (ha : s1.heap.get? a = some { cls := .type "list", data := .seq vs.toArray }) (hr : Room 52 callerA)
    (F : ∀ base : Heap, LamX.TabB base mg c T → FnG P w K mg base 52 fa fd ["_law_script"] (lawSg K T z)) (hbind : ∀ (s : Shared) (u : Value), BindsTo s fd ⟨[u], []⟩ [("_law_script", u)])
    (hHT : H T = some (.tbl #[])) (hS : SqL K H a (ns.map V.int)) (hok : HOk P w H s1.heap) (hA : ∀ b, b ≠ a → b ≠ T → H b = none) (hK : H a = none ∨ K.lookup a = none) (hO : ∀ xs, H a = some xs → ∃ o ys, xs = .frz o ys) (hne : a ≠ T) :
    codeAny (model P w) callerA (.call (.ref fa) ⟨[.ref a], []⟩) (fun r s' => r = .ok (.ret (.bool true)) ∧ OldK s1.heap s'.heap ∧ s'.os = s1.os ∧ AllBare s'.gens) s1 := by
  have seen : ∀ {b : Addr} {o : Obj}, s1.heap.get? b = some o → (∀ ws n, o.data ≠ .seq ws n) → (∀ ws, o.data ≠ .fields ws) → (hidT s1.heap H).get? b = some o := fun {b o} e n1 n2 => hidT_get e (hA b (fun q => by
    rw [q, ha] at e
    cases e
    exact n1 _ _ rfl) fun q => by
    rw [q, hT] at e
    cases e
    exact n2 _ rfl)
  have ns' : ∀ {b : Addr} {m : Str → Option Value}, s1.heap.Ns b m → (hidT s1.heap H).Ns b m := fun {b m} ⟨o, es, ep, e, d, r⟩ => ⟨o, es, ep, seen e (fun ws n q => by rw [d] at q; cases q) (fun ws q => by rw [d] at q; cases q), d, r⟩
  have kin : K.In (hidT s1.heap H) := fun b o e => by
    refine hidT_get (KX b o e) ?_
    by_cases q : b = a
    · subst q
      rcases hK with q | q
      · exact q
      · rw [q] at e
        cases e
    · exact hA b q fun q => by
        rw [q, nT] at e
        cases e
  have md : L2.Mod K mg (hidT s1.heap H) := by
    obtain ⟨mc, h1, h2⟩ := hlim
    exact ⟨kin, ns' hns, ⟨mb, ns' hb, hbb⟩, ⟨mc, ns' h1, h2⟩⟩
  have glT : mainGlobals ≠ T := fun q => by
    obtain ⟨o, es, ep, e, d, _⟩ := hns
    rw [q, hT] at e
    cases e
    cases d
  have bt : (hidT s1.heap H).BuiltinsAt mg T := by
    obtain ⟨bm, ob, b1, b2, b3, b4, b5, b6⟩ := hbm
    refine ⟨bm, ob, b1, b2, fun q => ?_, fun q => ?_, seen b3 (fun ws n q => by rw [b6] at q; cases q) (fun ws q => by rw [b6] at q; cases q), b4, b5, b6⟩
    · obtain ⟨o, es, ep, e, d, _⟩ := hns
      rw [q, e] at b3
      cases b3
      rw [d] at b6
      cases b6
    · rw [q, hT] at b3
      cases b3
      cases b6
  have tb : LamX.TabB (hidT s1.heap H) mg c T := NdefX.tabB_of_K kin hh bt glT
  have e0 : Env0 P w K mg (hidT s1.heap H) callerA [] s1 H := ⟨rfl, md, fun b o e => of_hidT e, Nat.le_of_eq (hidT_size _ _), trivial, fun b q => absurd (show b ∈ ([] : List Addr) from q) (by simp), hok, .of_eq hg⟩
  have sp : lawSg K T z [.ref a] H fun v _ => v = .bl true := ⟨a, ns, rfl, hS, fun p hp => by
    rw [List.mem_singleton.mp hp]
    exact LamX.TabS.nil hHT, fun _ => rfl⟩
  refine codeAny_mono ((F _ tb).run callerA [] s1 H ⟨[.ref a], []⟩ [.ref a] [.ref a] _ hr rfl e0 (hbind s1 (.ref a)) (.cons rfl .nil) sp) fun r s' h => ?_
  match r, h with
  | .error e, h => exact False.elim h
  | .ok .next, h => exact False.elim h
  | .ok .brk, h => exact False.elim h
  | .ok .cont, h => exact False.elim h
  | .ok (.ret u), ⟨v, H', os, bare, un, hok', r', q⟩ =>
    have q : v = .bl true := q
    subst q
    obtain rfl : u = Value.bool true := r'
    obtain ⟨more, gm⟩ := un.tbls T #[] hHT
    have gT : s'.heap.get? T = some { cls := .none, data := .fields (#[] ++ more) } := hok' T _ gm
    have old : ∀ b o, b ≠ T → s1.heap.get? b = some o → s'.heap.get? b = some o := fun b o nb e => by
      cases hb : H b with
      | none => exact un.keep b o e hb (fun q => absurd (show b ∈ ([] : List Addr) from q) (by simp)) (by simp)
      | some u =>
        have eb : b = a := Classical.byContradiction fun n => by rw [hA b n nb] at hb; cases hb
        subst eb
        obtain ⟨ob, ys, rfl⟩ := hO u hb
        have z2 := un.frzs b ob ys hb
        have e1 := (hok b _ hb).1
        have e2 := (hok' b _ z2).1
        rw [e] at e1
        cases e1
        exact e2
    refine ⟨rfl, ⟨fun b o e => ?_, fun b o e => ?_⟩, os, bare⟩
    · by_cases hb : b = T
      · subst hb
        rw [hT] at e
        cases e
        exact .inr (.inl ⟨((PySem.W.codeHd_of_K KX hh).tab hT).isCodeTable, rfl, #[], more, rfl, gT⟩)
      · exact .inl (old b o hb e)
    · by_cases hb : b = T
      · subst hb
        exact ⟨_, gT⟩
      · exact ⟨o, old b o hb e⟩
theorem law_end (KX : K.In s1.heap) (hns : s1.heap.Ns mainGlobals mg) (hb : s1.heap.Ns builtinsNs mb) (hbb : ∀ x : Str, x ≠ "__name__" → mb x = bootBuiltins x) (hlim : s1.heap.NoLimit) (hg : s1.gens = #[])
    (hT : s1.heap.get? T = some { cls := .none, data := .fields #[] }) (nT : K.lookup T = none) (hh : PySem.W.codeHdIn K c T = true)
    (hbm : ∃ (bm : Addr) (ob : Obj), mg "__builtins__" = some (.ref bm) ∧ bm ≠ builtinsNs ∧ s1.heap.get? bm = some ob ∧ ob.cls = .type "module" ∧ ob.dict = some builtinsNs ∧ ob.data = .plain)
    (ha : s1.heap.get? a = some { cls := .type "list", data := .seq vs.toArray }) (hi : IntsAre vs ns) (hl : ns.length ≤ sizeLine) (hr : Room 52 callerA)
    (F : ∀ base : Heap, LamX.TabB base mg c T → FnG P w K mg base 52 fa fd ["_law_script"] (lawSg K T z)) (hbind : ∀ (s : Shared) (u : Value), BindsTo s fd ⟨[u], []⟩ [("_law_script", u)]) :
    codeAny (model P w) callerA (.call (.ref fa) ⟨[.ref a], []⟩) (fun r s' => r = .ok (.ret (.bool true)) ∧ OldK s1.heap s'.heap ∧ s'.os = s1.os ∧ AllBare s'.gens) s1 := by
  have hne : a ≠ T := fun q => by
    rw [q, hT] at ha
    have := congrArg Obj.data (Option.some.inj ha)
    cases this
  have rv := vals_ints hi
  let H0 : Hp := fun b => if b = T then some (.tbl #[]) else none
  cases hk : K.lookup a with
  | some o =>
    have e := KX a o hk
    rw [ha] at e
    cases e
    refine end_core (H := H0) (ns := ns) KX hns hb hbb hlim hg hT nT hh hbm ha hr F hbind (if_pos rfl) (.inr ⟨_, vs.toArray, _, hk, rfl, rfl, rfl, by rw [List.size_toArray, hi.length]; exact hl, by simpa using rv⟩) (fun b u q => ?_) (fun b _ n => if_neg n) (.inl (if_neg hne)) (fun xs q => ?_) hne
    · by_cases n : b = T
      · have q : H0 b = some u := q
        rw [show H0 b = some (.tbl #[]) from if_pos n] at q
        cases q
        rw [n]
        exact hT
      · rw [show H0 b = none from if_neg n] at q
        cases q
    · rw [show H0 a = none from if_neg hne] at q
      cases q
  | none =>
    let H1 : Hp := fun b => if b = a then some (.frz { cls := .type "list", data := .seq vs.toArray } (.lst (ns.map V.int))) else H0 b
    refine end_core (H := H1) (ns := ns) KX hns hb hbb hlim hg hT nT hh hbm ha hr F hbind ((if_neg fun q => hne q.symm).trans (if_pos rfl)) (.inl (.inr ⟨_, if_pos rfl⟩)) (fun b u q => ?_) (fun b n1 n2 => (if_neg n1).trans (if_neg n2)) (.inr hk) (fun xs q => ?_) hne
    · by_cases n1 : b = a
      · rw [show H1 b = some (.frz { cls := .type "list", data := .seq vs.toArray } (.lst (ns.map V.int))) from if_pos n1] at q
        cases q
        rw [n1]
        exact ⟨ha, by rw [List.length_map]; exact hl, vs, _, rv, ha⟩
      · rw [show H1 b = H0 b from if_neg n1] at q
        by_cases n : b = T
        · rw [show H0 b = some (.tbl #[]) from if_pos n] at q
          cases q
          rw [n]
          exact hT
        · rw [show H0 b = none from if_neg n] at q
          cases q
    · rw [show H1 a = some (.frz { cls := .type "list", data := .seq vs.toArray } (.lst (ns.map V.int))) from if_pos rfl] at q
      cases q
      exact ⟨_, _, rfl⟩
end
end K26
namespace K26
open PySem PySem.Spec PyProof.Rows L2 PySem.W PySem.SeqAt
theorem walk_end {l : PySem.W.OpenLaw} {n : Nat} {q : Program} {loose : List Str} {XP : (Str → Option Value) → Heap → Prop} {d : DefRec} (hn : l.most = some n) (hn2 : n ≤ sizeLine) (hdf : d.params.defaults = []) (hr : Room 52 callerA) (hname : d.name = ("law" : Str)) :
    PySem.W.WalkO q loose XP hkL.says l.row.toRowW d [] (fun f vs => PySem.call f vs) := by
  refine Att.attach_call hn hdf fun w s0 s1 mg mb fa o pm cd doc a vs ns G Y ho hd hcd hmg hobj hints hlen hg => ?_
  obtain ⟨K, KX, c⟩ := Y
  have c : Says w s1.heap K := c
  obtain ⟨fd, hb, hm, hF⟩ := the_walk (P := l.prog) (w := w) KX G.T.g c
  have ef : fa = He.ga K "law" := by
    rw [hname, hm] at hmg
    cases hmg
    rfl
  subst ef
  have mm : (("_law_claims", none) : He.Defn) ∈ tfL := List.mem_cons_self
  exact law_end (z := lamS) KX G.T.g G.T.b G.T.builtins G.T.nolimit hg (c.empty _ mm) (c.out _ mm) (c.hd _ mm) G.T.bmain hobj hints (Nat.le_trans hlen hn2) hr hF hb
end K26
set_option maxHeartbeats 0
open PySem PySem.W PySem.Calls PyProof.Rows
theorem PySem.Challenge.cw_everybill_k26_whole_claims_spoilt_anywhe_holds : PySem.Challenge.rw_everybill_k26_whole_claims_spoilt_anywhe.Holds := by
  w_on; o_law
  refine HandSHeadRun.head_any (r := OpenLaw.row PySem.Challenge.rw_everybill_k26_whole_claims_spoilt_anywhe) (q := view (OpenLaw.row PySem.Challenge.rw_everybill_k26_whole_claims_spoilt_anywhe).prog [81]) (H := K26.hkL) (ob := K26.obL) (M := 20000) (loose := K26.looseL) (d := HandSHeadRun.topDef (OpenLaw.row PySem.Challenge.rw_everybill_k26_whole_claims_spoilt_anywhe).prog 81) (kwd := []) K26.obL_eq
    (by kernel_rfl) (fun s => by kernel_rfl) K26.runL (by kernel_rfl) (by kernel_rfl) (by kernel_rfl) (by rfl) (by first | assumption | decide +kernel) (by decide +kernel) ⟨rfl, rfl, rfl, rfl, rfl, by decide +kernel⟩ ?hw ?hc
  case hw => w_witness2
  case hc =>
    exact K26.walk_end (l := PySem.Challenge.rw_everybill_k26_whole_claims_spoilt_anywhe) (n := 63) rfl (by decide) (by kernel_rfl) ⟨rfl, by decide, by decide⟩ (by kernel_rfl)
