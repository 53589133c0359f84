import PyProof.Rows.All
import Wide.All
import OpenK.AllK
import Wide.FinOn
import HandS.HeadHook4
import KE.KDictKeyed
import HandS.DeepEq
import HandS.ForMost
import HandS.Exc
import HandS.Defaults
import HandS.IsInst
import HandS.Conv
import HandS.TupAny
import HandS.Zip
import HandS.SortInts
import HandS.Lambda
import HandS.More
import HandS.SetFor
import HandS.Style
import KE.SortKeyHeap
import KE.SortData
import HandS.SortKw
import KE.KDictDisplayH
import KE.KDictWalk
import HandS.SetKeys
import KE.DataMinKey
import HandS.DictTup
import HandS.Deep
import HandS.Iter
import KE.KRevSl
import HandS.NoneIn
import KE.DataCmp
import KE.LtData
import KE.KSortTupAny
import HandS.TryMany
import HandS.ExcInit
import HandS.ExcField
import HandS.ExcIs
import HandS.ExcOwn
import HandS.ExcCtx
import HandS.HotCalls
import KE.KStateDown
import HandS.Head0
import HandS.Head1
import HandS.Head2
import HandS.HeadEnd
import HandS.HeadHook1
import HandS.HeadHook2
import HandS.HeadWalk
import PySem.Challenge.RW_sitapart_k01_benches_and_sitters_known
set_option Elab.async false
set_option linter.all false
set_option maxRecDepth 100000
set_option maxHeartbeats 4000000
namespace Ab
open PySem L2
/-- the defs with lambdas: their tables of code objects, the names in these -/
def lamDefs : List (Str × Str) := [("law", "law.<locals>.<lambda>")]
def lamTabs (K : PySem.W.Frag) : List (Addr × Str) := lamDefs.map fun d => ((He.cT K (d.1, none)).2, d.2)
end Ab
/-! dicts whose keys are tuples of ints and bools: what stands at their object -/
namespace Ab
open PySem PySem.Spec L2
/-- what such a key is, up to == -/
def nk (ns : List Int) : NestedKey := .tup (ns.map .num)
theorem nk_inj {a b : List Int} (h : nk a = nk b) : a = b := by
  have h1 : a.map NestedKey.num = b.map NestedKey.num := NestedKey.tup.inj h
  exact (List.map_inj_right fun x y e => NestedKey.num.inj e).mp h1
theorem nk_hashes (w : World) : ∀ ns : List Int, NestedKey.hashes w (ns.map .num) = ns.map hashInt
  | [] => rfl
  | n :: r => by
    show NestedKey.hash w (.num n) :: NestedKey.hashes w (r.map .num) = _
    rw [nk_hashes w r]
    rfl
theorem nk_hash (w w' : World) (ns : List Int) : (nk ns).hash w = (nk ns).hash w' := by
  show reduceHash _ = reduceHash _
  rw [nk_hashes, nk_hashes]
theorem nk_depth (ns : List Int) : (nk ns).depth ≤ 8 := by
  have : ∀ ns : List Int, NestedKey.depthAll (ns.map .num) = 0 := by
    intro ns
    induction ns with
    | nil => rfl
    | cons n r ih => show max (NestedKey.depth (.num n)) (NestedKey.depthAll (r.map .num)) = 0; rw [ih]; rfl
  show NestedKey.depthAll _ + 1 ≤ 8
  rw [this]
  decide
def numD : PyData → Option Int
  | .int i => some i
  | .bool b => some (if b = true then 1 else 0)
  | _ => none
inductive NumsD : List PyData → List Int → Prop
  | nil : NumsD [] []
  | cons {d i ds ns} : numD d = some i → NumsD ds ns → NumsD (d :: ds) (i :: ns)
/-- the data d is the key ns -/
def KeyD (d : PyData) (ns : List Int) : Prop := ∃ ds, d = .tuple ds ∧ NumsD ds ns
theorem keyD_ints (ns : List Int) : KeyD (.tuple (ns.map .int)) ns := ⟨_, rfl, by
  induction ns with
  | nil => exact .nil
  | cons n r ih => exact .cons rfl ih⟩
/-! ### the dict's object -/
abbrev KX := List Int × Addr × V
abbrev KY := NestedKey × Addr × Value
def KdR (xs : List KX) (ys : List KY) : Prop := Paired (fun x y => y.1 = nk x.1 ∧ y.2.1 = x.2.1 ∧ RelV x.2.2 y.2.2) xs ys
def KdAt (h : Heap) (p : Addr) (xs : List KX) : Prop := ∃ (o : Obj) (es : Array DictEntry) (ep : Nat) (ys : List KY), h.get? p = some o ∧ o.ExactDict ∧ o.data = .dict es ep ∧ KdR xs ys ∧ (∀ (P : Program) (w : World), es.toList = ys.map (entryOfKey (nestedKind P w))) ∧ (ys.map (·.1)).Nodup ∧ xs.length ≤ sizeLine ∧ (p == sysModules) = false
def KdO (p : Addr) (xs : List KX) : HO := .ext fun h => KdAt h p xs
theorem kd_ok {P : Program} {w : World} {h : Heap} {p : Addr} {xs : List KX} (x : KdAt h p xs) : ObjOk P w H h p (KdO p xs) := by
  have ⟨o, _, _, _, ho, _⟩ := x
  exact ⟨x, ⟨o, ho⟩, fun h1 h2 ⟨o, es, ep, ys, a, r⟩ st => ⟨o, es, ep, ys, st _ a, r⟩⟩
end Ab
/-! Ab: an abstract layer over HandS: data (PyData) in place of the heap, owned lists and dicts, bags of draws -/
namespace Ab
open PySem PySem.Spec L2

/-- what a walk may change of what it was given: the bags; the tables of code objects, with the names that their code objects bear -/
structure Bg where
  bags : Addr → Prop
  tabs : List (Addr × Str)
def Bg.has (B : Bg) (a : Addr) : Prop := B.bags a ∨ ∃ q, (a, q) ∈ B.tabs
instance : CoeFun Bg fun _ => Addr → Prop := ⟨Bg.has⟩
def TabAt (G H : Hp) (p : Addr) (q : Str) : Prop := ∃ ps : Array Value, H p = some (.tbl ps) ∧ TriplesOk ps.toList ∧ ∀ (at_ : Pos) (cv : Value), codeAmong at_ ps.toList = some cv → ∃ c, cv = .ref c ∧ G c = some (LamX.CodeO c q)
def BagAt (G H : Hp) (b : Addr) : Prop := ∃ (dl : Addr) (i : Int) (ns : List Int),
  H b = some (.lst [.ref dl, .int i]) ∧ G dl = some (.lst (ns.map V.int)) ∧ ns.length = 400 ∧ (∀ n ∈ ns, 0 ≤ n ∧ n < 1000) ∧ 0 ≤ i
def Ext (G H : Hp) : Prop := ∀ a o, G a = some o → H a = some o
structure Ok (B : Bg) (G H : Hp) : Prop where
  ex : Ext G H
  bag : ∀ b, B.bags b → G b = none ∧ BagAt G H b
  tab : ∀ p ∈ B.tabs, G p.1 = none ∧ TabAt G H p.1 p.2
structure Grow (B : Bg) (G H G' H' : Hp) : Prop where
  g : Ext G G'
  h : ∀ a o, ¬ B a → H a = some o → H' a = some o
  n : ∀ a o, H a = some o → G a = none → G' a = none
  ok : Ok B G' H'

theorem Ext.refl (G : Hp) : Ext G G := fun _ _ h => h
theorem Ext.trans {A B C : Hp} (a : Ext A B) (b : Ext B C) : Ext A C := fun x o h => b x o (a x o h)
theorem Ext.new {G : Hp} {p : Addr} {o : HO} (h : G p = none) : Ext G (upd G p o) := fun a u e => by rw [upd_ne (ne_of_none e h)]; exact e
theorem Ext.free {G H : Hp} (e : Ext G H) {p : Addr} (h : H p = none) : G p = none := by
  cases q : G p with
  | none => rfl
  | some o => rw [e p o q] at h; cases h
section
variable {B : Bg} {G H G' H' G2 H2 : Hp} {p : Addr} {o : HO}
theorem TabAt.mono {q : Str} (h : TabAt G H p q) (e : Ext G G') (e2 : H' p = H p) : TabAt G' H' p q := by
  obtain ⟨ps, h1, h2, h3⟩ := h
  exact ⟨ps, by rw [e2]; exact h1, h2, fun a cv hc => let ⟨c, x, y⟩ := h3 a cv hc; ⟨c, x, e _ _ y⟩⟩
theorem TabAt.some {q : Str} (h : TabAt G H p q) : ∃ ps, H p = some (.tbl ps) := let ⟨ps, h1, _⟩ := h; ⟨ps, h1⟩
theorem Ok.some_of (k : Ok B G H) {b : Addr} (hb : B b) : ∃ u, H b = some u := by
  rcases hb with hb | ⟨q, hb⟩
  · obtain ⟨_, _, _, _, e, _⟩ := k.bag b hb
    exact ⟨_, e⟩
  · obtain ⟨ps, e⟩ := (k.tab _ hb).2.some
    exact ⟨_, e⟩
theorem Ok.none_of (k : Ok B G H) {b : Addr} (hb : B b) : G b = none := by
  rcases hb with hb | ⟨q, hb⟩
  · exact (k.bag b hb).1
  · exact (k.tab _ hb).1
theorem Ok.not (k : Ok B G H) {a : Addr} (e : G a = some o) : ¬ B a := fun hb => by rw [k.none_of hb] at e; cases e
theorem Ok.notfree (k : Ok B G H) (e : H p = none) : ¬ B p := fun hb => by
  obtain ⟨u, q⟩ := k.some_of hb
  rw [q] at e; cases e
theorem Grow.refl (k : Ok B G H) : Grow B G H G H := ⟨Ext.refl _, fun _ _ _ h => h, fun _ _ _ h => h, k⟩
theorem Grow.trans (a : Grow B G H G' H') (b : Grow B G' H' G2 H2) : Grow B G H G2 H2 where
  g := a.g.trans b.g
  h := fun x o n e => b.h x o n (a.h x o n e)
  n := fun x o e z => by
    by_cases hb : B x
    · exact b.ok.none_of hb
    · exact b.n x o (a.h x o hb e) (a.n x o e z)
  ok := b.ok
theorem Grow.free (a : Grow B G H G' H') (e : H' p = none) : H p = none := by
  cases q : H p with
  | none => rfl
  | some o =>
    by_cases hb : B p
    · obtain ⟨u, z⟩ := a.ok.some_of hb
      rw [z] at e; cases e
    · rw [a.h p o hb q] at e; cases e
/-- a new object, immutable from now on -/
theorem Ok.new (k : Ok B G H) (e : H p = none) (o : HO) : Ok B (upd G p o) (upd H p o) where
  ex := fun a u z => by
    by_cases h : a = p
    · subst h; rw [upd_same] at z ⊢; exact z
    · rw [upd_ne h] at z ⊢; exact k.ex a u z
  bag := fun b hb => by
    obtain ⟨z, dl, i, ns, e1, e2, r⟩ := k.bag b hb
    have n1 : b ≠ p := ne_of_none e1 e
    have n2 : dl ≠ p := ne_of_none (k.ex _ _ e2) e
    exact ⟨by rw [upd_ne n1]; exact z, dl, i, ns, by rw [upd_ne n1]; exact e1, by rw [upd_ne n2]; exact e2, r⟩
  tab := fun t ht => by
    obtain ⟨z, y⟩ := k.tab t ht
    obtain ⟨ps, y1⟩ := y.some
    have n1 : t.1 ≠ p := ne_of_none y1 e
    exact ⟨by rw [upd_ne n1]; exact z, y.mono (Ext.new (k.ex.free e)) (upd_ne n1)⟩
theorem Grow.new (k : Ok B G H) (e : H p = none) (o : HO) : Grow B G H (upd G p o) (upd H p o) :=
  ⟨Ext.new (k.ex.free e), fun a u _ z => by rw [upd_ne (ne_of_none z e)]; exact z, fun a u z q => by rw [upd_ne (ne_of_none z e)]; exact q, k.new e o⟩
/-- a new object, owned -/
theorem Ok.newOwn (k : Ok B G H) (e : H p = none) (o : HO) : Ok B G (upd H p o) where
  ex := fun a u z => by rw [upd_ne (ne_of_none (k.ex _ _ z) e)]; exact k.ex _ _ z
  bag := fun b hb => by
    obtain ⟨z, dl, i, ns, e1, r⟩ := k.bag b hb
    exact ⟨z, dl, i, ns, by rw [upd_ne (ne_of_none e1 e)]; exact e1, r⟩
  tab := fun t ht => by
    obtain ⟨z, y⟩ := k.tab t ht
    obtain ⟨ps, y1⟩ := y.some
    exact ⟨z, y.mono (Ext.refl _) (upd_ne (ne_of_none y1 e))⟩
theorem Grow.newOwn (k : Ok B G H) (e : H p = none) (o : HO) : Grow B G H G (upd H p o) :=
  ⟨Ext.refl _, fun a u _ z => by rw [upd_ne (ne_of_none z e)]; exact z, fun a u z q => q, k.newOwn e o⟩
/-- an owned object becomes immutable -/
theorem Ok.frz (k : Ok B G H) (nb : ¬ B p) (e : H p = some o) (z : G p = none) : Ok B (upd G p o) H where
  ex := fun a u q => by
    by_cases h : a = p
    · subst h; rw [upd_same] at q; cases q; exact e
    · rw [upd_ne h] at q; exact k.ex a u q
  bag := fun b hb => by
    obtain ⟨y, dl, i, ns, e1, e2, r⟩ := k.bag b hb
    have n1 : b ≠ p := fun q => nb (.inl (q ▸ hb))
    have n2 : dl ≠ p := ne_of_none e2 z
    exact ⟨by rw [upd_ne n1]; exact y, dl, i, ns, e1, by rw [upd_ne n2]; exact e2, r⟩
  tab := fun t ht => by
    obtain ⟨y, y2⟩ := k.tab t ht
    have n1 : t.1 ≠ p := fun q => nb (.inr ⟨t.2, by rw [← q]; exact ht⟩)
    exact ⟨by rw [upd_ne n1]; exact y, y2.mono (Ext.new z) rfl⟩
/-- an owned object changed -/
theorem Ok.mut (k : Ok B G H) (nb : ¬ B p) (z : G p = none) (o : HO) : Ok B G (upd H p o) where
  ex := fun a u q => by rw [upd_ne (ne_of_none q z)]; exact k.ex _ _ q
  bag := fun b hb => by
    obtain ⟨y, dl, i, ns, e1, r⟩ := k.bag b hb
    have n1 : b ≠ p := fun q => nb (.inl (q ▸ hb))
    exact ⟨y, dl, i, ns, by rw [upd_ne n1]; exact e1, r⟩
  tab := fun t ht => by
    obtain ⟨y, y2⟩ := k.tab t ht
    have n1 : t.1 ≠ p := fun q => nb (.inr ⟨t.2, by rw [← q]; exact ht⟩)
    exact ⟨y, y2.mono (Ext.refl _) (upd_ne n1)⟩
/-- immutable objects stay -/
theorem Grow.keep {G1 : Hp} (g : Grow B G H G' H') (k : Ok B G1 H) : Ext G1 H' := fun a o e => g.h a o (k.not e) (k.ex a o e)
end

/-! ### data -/
section
variable {K : PySem.W.Frag} {G G' : Hp}
/-! lists, tuples and data that stand in the ghost itself (the kit's own may lie elsewhere, too) -/
def SqL (_ : PySem.W.Frag) (H : Hp) (a : Addr) (xs : List V) : Prop := H a = some (.lst xs)
def SqT (_ : PySem.W.Frag) (H : Hp) (a : Addr) (xs : List V) : Prop := H a = some (.tup xs)
theorem SqL.of {a : Addr} {xs : List V} (h : G a = some (.lst xs)) : SqL K G a xs := h
theorem SqT.of {a : Addr} {xs : List V} (h : G a = some (.tup xs)) : SqT K G a xs := h
theorem SqL.up {a : Addr} {xs : List V} (h : SqL K G a xs) : L2.SqL K G a xs := .inl (.inl h)
theorem SqT.up {a : Addr} {xs : List V} (h : SqT K G a xs) : L2.SqT K G a xs := .inl (.inl h)
mutual
inductive Dp (K : PySem.W.Frag) (H : Hp) : V → PyData → Prop
  | non : Dp K H .non .none
  | bl (b : Bool) : Dp K H (.bl b) (.bool b)
  | int (i : Int) : Dp K H (.int i) (.int i)
  | str (x : Str) : Dp K H (.str x) (.str x)
  | lst {a : Addr} {xs : List V} {ds : List PyData} : SqL K H a xs → DpAll K H xs ds → Dp K H (.ref a) (.list ds)
  | tup {a : Addr} {xs : List V} {ds : List PyData} : SqT K H a xs → DpAll K H xs ds → Dp K H (.ref a) (.tuple ds)
inductive DpAll (K : PySem.W.Frag) (H : Hp) : List V → List PyData → Prop
  | nil : DpAll K H [] []
  | cons {v : V} {vs : List V} {d : PyData} {ds : List PyData} : Dp K H v d → DpAll K H vs ds → DpAll K H (v :: vs) (d :: ds)
end
mutual
theorem Dp.up : ∀ (d : PyData) {v : V}, Dp K G v d → L2.Dp K G v d
  | .none, _, h => by cases h; exact .non
  | .bool b, _, h => by cases h; exact .bl b
  | .int i, _, h => by cases h; exact .int i
  | .str x, _, h => by cases h; exact .str x
  | .list ds, _, h => by
    cases h with
    | lst hs ha => exact .lst hs.up (DpAll.up ds ha)
  | .tuple ds, _, h => by
    cases h with
    | tup hs ha => exact .tup hs.up (DpAll.up ds ha)
  | .dict _, _, h => by cases h
theorem DpAll.up : ∀ (ds : List PyData) {vs : List V}, DpAll K G vs ds → L2.DpAll K G vs ds
  | [], _, h => by cases h; exact .nil
  | d :: ds, _, h => by
    cases h with
    | cons h1 h2 => exact .cons (Dp.up d h1) (DpAll.up ds h2)
end
instance {a : Addr} {xs : List V} : Coe (SqL K G a xs) (L2.SqL K G a xs) := ⟨SqL.up⟩
instance {a : Addr} {xs : List V} : Coe (SqT K G a xs) (L2.SqT K G a xs) := ⟨SqT.up⟩
instance {v : V} {d : PyData} : Coe (Dp K G v d) (L2.Dp K G v d) := ⟨Dp.up d⟩
theorem sqL_ext (e : Ext G G') {a : Addr} {xs : List V} (h : L2.SqL K G a xs) : L2.SqL K G' a xs := by
  rcases h with (h | ⟨o, h⟩) | h
  · exact .inl (.inl (e _ _ h))
  · exact .inl (.inr ⟨o, e _ _ h⟩)
  · exact .inr h
theorem SqL.ext (e : Ext G G') {a : Addr} {xs : List V} (h : SqL K G a xs) : SqL K G' a xs := e _ _ h
theorem SqT.ext (e : Ext G G') {a : Addr} {xs : List V} (h : SqT K G a xs) : SqT K G' a xs := e _ _ h
mutual
theorem Dp.ext (e : Ext G G') : ∀ (d : PyData) (v : V), Dp K G v d → Dp K G' v d
  | .none, _, h => by cases h; exact .non
  | .bool b, _, h => by cases h; exact .bl b
  | .int i, _, h => by cases h; exact .int i
  | .str x, _, h => by cases h; exact .str x
  | .list ds, _, h => by
    cases h with
    | lst hs ha => exact .lst (SqL.ext e hs) (DpAll.ext e ds _ ha)
  | .tuple ds, _, h => by
    cases h with
    | tup hs ha => exact .tup (SqT.ext e hs) (DpAll.ext e ds _ ha)
  | .dict _, _, h => by cases h
theorem DpAll.ext (e : Ext G G') : ∀ (ds : List PyData) (vs : List V), DpAll K G vs ds → DpAll K G' vs ds
  | [], _, h => by cases h; exact .nil
  | d :: ds, _, h => by
    cases h with
    | cons h1 h2 => exact .cons (Dp.ext e d _ h1) (DpAll.ext e ds _ h2)
end
theorem DpAll.length : ∀ {vs : List V} {ds : List PyData}, DpAll K G vs ds → vs.length = ds.length
  | _, _, .nil => rfl
  | _, _, .cons _ t => congrArg Nat.succ (DpAll.length t)
theorem DpAll.get : ∀ {vs : List V} {ds : List PyData} {i : Nat} {v : V}, DpAll K G vs ds → vs[i]? = some v → ∃ d, ds[i]? = some d ∧ Dp K G v d
  | _, _, _, _, .nil, e => by simp at e
  | _, _, 0, _, .cons h _, e => by simp at e; subst e; exact ⟨_, rfl, h⟩
  | _, _, i + 1, _, .cons _ t, e => by
    obtain ⟨d, a, b⟩ := DpAll.get (i := i) t (by simpa using e)
    exact ⟨d, by simpa using a, b⟩
theorem DpAll.get' : ∀ {vs : List V} {ds : List PyData} {i : Nat} {d : PyData}, DpAll K G vs ds → ds[i]? = some d → ∃ v, vs[i]? = some v ∧ Dp K G v d
  | _, _, _, _, .nil, e => by simp at e
  | _, _, 0, _, .cons h _, e => by simp at e; subst e; exact ⟨_, rfl, h⟩
  | _, _, i + 1, _, .cons _ t, e => by
    obtain ⟨d, a, b⟩ := DpAll.get' (i := i) t (by simpa using e)
    exact ⟨d, by simpa using a, b⟩
theorem DpAll.append : ∀ {vs ws : List V} {ds es : List PyData}, DpAll K G vs ds → DpAll K G ws es → DpAll K G (vs ++ ws) (ds ++ es)
  | _, _, _, _, .nil, s => s
  | _, _, _, _, .cons h t, s => .cons h (DpAll.append t s)
theorem DpAll.drop : ∀ {vs : List V} {ds : List PyData} (n : Nat), DpAll K G vs ds → DpAll K G (vs.drop n) (ds.drop n)
  | _, _, 0, h => h
  | _, _, _ + 1, .nil => .nil
  | _, _, n + 1, .cons _ t => DpAll.drop n t
theorem DpAll.take : ∀ {vs : List V} {ds : List PyData} (n : Nat), DpAll K G vs ds → DpAll K G (vs.take n) (ds.take n)
  | _, _, 0, _ => .nil
  | _, _, _ + 1, .nil => .nil
  | _, _, n + 1, .cons h t => .cons h (DpAll.take n t)
theorem DpAll.reverse {vs : List V} {ds : List PyData} (h : DpAll K G vs ds) : DpAll K G vs.reverse ds.reverse := by
  induction h using DpAll.rec (motive_1 := fun _ _ _ => True) with
  | nil => exact .nil
  | cons h t _ ih => rw [List.reverse_cons, List.reverse_cons]; exact Ab.DpAll.append ih (.cons h .nil)
  | _ => trivial
theorem DpAll.ints : ∀ (ns : List Int), DpAll K G (ns.map V.int) (ns.map PyData.int)
  | [] => .nil
  | n :: r => .cons (.int n) (DpAll.ints r)
theorem DpAll.ints_inv : ∀ {ns : List Int} {vs : List V}, DpAll K G vs (ns.map PyData.int) → vs = ns.map V.int
  | [], _, h => by cases h; rfl
  | n :: r, _, h => by
    cases h with
    | cons h1 h2 => cases h1; exact congrArg (V.int n :: ·) (DpAll.ints_inv h2)
theorem DpAll.bls : ∀ (ns : List Bool), DpAll K G (ns.map V.bl) (ns.map PyData.bool)
  | [] => .nil
  | n :: r => .cons (.bl n) (DpAll.bls r)
theorem DpAll.bls_inv : ∀ {ns : List Bool} {vs : List V}, DpAll K G vs (ns.map PyData.bool) → vs = ns.map V.bl
  | [], _, h => by cases h; rfl
  | n :: r, _, h => by
    cases h with
    | cons h1 h2 => cases h1; exact congrArg (V.bl n :: ·) (DpAll.bls_inv h2)
theorem Dp.tup_inv {v : V} {ds : List PyData} (h : Dp K G v (.tuple ds)) : ∃ a xs, v = .ref a ∧ SqT K G a xs ∧ DpAll K G xs ds := by
  cases h with
  | tup hs ha => exact ⟨_, _, rfl, hs, ha⟩
theorem Dp.lst_inv {v : V} {ds : List PyData} (h : Dp K G v (.list ds)) : ∃ a xs, v = .ref a ∧ SqL K G a xs ∧ DpAll K G xs ds := by
  cases h with
  | lst hs ha => exact ⟨_, _, rfl, hs, ha⟩
end

/-! ### slots -/
/-- what a slot holds: unknown; data; an owned list; an owned dict (keys ints, texts); one whose keys are tuples of numbers (the numbers, the key, the value); a bag; a value as it is -/
inductive Sl where
  | kd (kvs : List (List Int × PyData × PyData))
  | x
  | d (d : PyData)
  | ol (ds : List PyData)
  | od (kvs : List (Key × PyData))
  | bg
  | rv (v : V)
  | scr (ns : List Int)
  | exn (a dx : Addr) (f : Str) (d : PyData)
  | pp (φ : V → Hp → Prop)
def Sl.own : Sl → Bool
  | .ol _ => true
  | .od _ => true
  | .kd _ => true
  | _ => false
def DpK (K : PySem.W.Frag) (G : Hp) : List (Key × V) → List (Key × PyData) → Prop := Paired fun p q => p.1 = q.1 ∧ Dp K G p.2 q.2
theorem DpK.ext {K : PySem.W.Frag} {G G' : Hp} (e : Ext G G') {a : List (Key × V)} {b : List (Key × PyData)} (h : DpK K G a b) : DpK K G' a b := Paired.mapP h fun _ _ q => ⟨q.1, Dp.ext e _ _ q.2⟩
def KdK (K : PySem.W.Frag) (G : Hp) : List KX → List (List Int × PyData × PyData) → Prop := Paired fun x kv => x.1 = kv.1 ∧ KeyD kv.2.1 kv.1 ∧ Dp K G (.ref x.2.1) kv.2.1 ∧ Dp K G x.2.2 kv.2.2
theorem KdK.ext {K : PySem.W.Frag} {G G' : Hp} (e : Ext G G') {xs : List KX} {kvs : List (List Int × PyData × PyData)} (h : KdK K G xs kvs) : KdK K G' xs kvs := Paired.mapP h fun _ _ q => ⟨q.1, q.2.1, Dp.ext e _ _ q.2.2.1, Dp.ext e _ _ q.2.2.2⟩
def SlOk (K : PySem.W.Frag) (B : Bg) (G H : Hp) (v : V) : Sl → Prop
  | .x => True
  | .d d => Dp K G v d
  | .ol ds => ∃ p xs, v = .ref p ∧ ¬ B p ∧ G p = none ∧ H p = some (.lst xs) ∧ DpAll K G xs ds
  | .od kvs => ∃ p ks, v = .ref p ∧ ¬ B p ∧ G p = none ∧ H p = some (.dK ks) ∧ DpK K G ks kvs
  | .kd kvs => ∃ p xs, v = .ref p ∧ ¬ B p ∧ G p = none ∧ H p = some (KdO p xs) ∧ KdK K G xs kvs
  | .bg => ∃ b, v = .ref b ∧ B.bags b
  | .rv u => v = u
  | .scr ns => ∃ a, v = .ref a ∧ L2.SqL K G a (ns.map V.int)
  | .exn a dx f d => v = .ref a ∧ ∃ u, G dx = some (.xd [(f, u)]) ∧ Dp K G u d
  | .pp φ => ∀ G', Ext G G' → φ v G'
section
variable {K : PySem.W.Frag} {B : Bg} {G H G' H' : Hp} {v : V} {s : Sl}
theorem SlOk.grow (g : Grow B G H G' H') (h : SlOk K B G H v s) : SlOk K B G' H' v s := by
  cases s with
  | x => trivial
  | d d => exact Dp.ext g.g _ _ h
  | ol ds =>
    obtain ⟨p, xs, e, nb, z, q, r⟩ := h
    exact ⟨p, xs, e, nb, g.n _ _ q z, g.h _ _ nb q, DpAll.ext g.g _ _ r⟩
  | od kvs =>
    obtain ⟨p, ks, e, nb, z, q, r⟩ := h
    exact ⟨p, ks, e, nb, g.n _ _ q z, g.h _ _ nb q, r.ext g.g⟩
  | kd kvs =>
    obtain ⟨p, ks, e, nb, z, q, r⟩ := h
    exact ⟨p, ks, e, nb, g.n _ _ q z, g.h _ _ nb q, r.ext g.g⟩
  | bg => exact h
  | rv u => exact h
  | scr ns =>
    obtain ⟨a, e, q⟩ := h
    exact ⟨a, e, sqL_ext g.g q⟩
  | exn a dx f d =>
    obtain ⟨e, u, q, r⟩ := h
    exact ⟨e, u, g.g _ _ q, Dp.ext g.g _ _ r⟩
  | pp φ => exact fun G2 e => h G2 (g.g.trans e)
theorem SlOk.own_at (h : SlOk K B G H v s) (o : s.own = true) : ∃ p u, v = .ref p ∧ ¬ B p ∧ G p = none ∧ H p = some u := by
  cases s with
  | ol ds =>
    obtain ⟨p, xs, e, nb, z, q, r⟩ := h
    exact ⟨p, _, e, nb, z, q⟩
  | od kvs =>
    obtain ⟨p, ks, e, nb, z, q, r⟩ := h
    exact ⟨p, _, e, nb, z, q⟩
  | kd kvs =>
    obtain ⟨p, ks, e, nb, z, q, r⟩ := h
    exact ⟨p, _, e, nb, z, q⟩
  | _ => cases o
end
/-- a result: what is owned is new -/
def Res (K : PySem.W.Frag) (B : Bg) (H G' H' : Hp) (v : V) (r : Sl) : Prop := SlOk K B G' H' v r ∧ (r.own = true → ∀ p, v = .ref p → H p = none)
structure EnvOk (K : PySem.W.Frag) (B : Bg) (G H : Hp) (σ : St) (Γ : List Sl) : Prop where
  len : σ.length = Γ.length
  tt : B.tabs = lamTabs K
  ok : ∀ (i : Nat) s, Γ[i]? = some s → s ≠ .x → ∃ v, σ[i]? = some (some v) ∧ SlOk K B G H v s
  sep : ∀ (i j : Nat) s t v, i ≠ j → Γ[i]? = some s → Γ[j]? = some t → s.own = true → t.own = true → σ[i]? = some (some v) → σ[j]? = some (some v) → False
section
variable {K : PySem.W.Frag} {B : Bg} {G H G' H' : Hp} {v : V} {s : Sl} {σ : St} {Γ : List Sl}
theorem EnvOk.grow (h : EnvOk K B G H σ Γ) (g : Grow B G H G' H') : EnvOk K B G' H' σ Γ :=
  ⟨h.len, h.tt, fun i s e n => let ⟨v, a, b⟩ := h.ok i s e n; ⟨v, a, b.grow g⟩, h.sep⟩
theorem EnvOk.asg (h : EnvOk K B G H σ Γ) (g : Grow B G H G' H') {r : Sl} (q : Res K B H G' H' v r) (i : Nat) : EnvOk K B G' H' (σ.set i (some v)) (Γ.set i r) := by
  refine ⟨by simpa using h.len, h.tt, fun j s e n => ?_, fun a b s t u ne ea eb oa ob va vb => ?_⟩
  · by_cases hj : i = j
    · subst hj
      have hi : i < Γ.length := by
        by_cases hi : i < Γ.length
        · exact hi
        · rw [List.getElem?_eq_none (by simpa using hi)] at e; cases e
      rw [List.getElem?_set_self hi] at e
      cases e
      exact ⟨v, by rw [List.getElem?_set_self (by rw [h.len]; exact hi)], q.1⟩
    · rw [List.getElem?_set_ne hj] at e ⊢
      obtain ⟨v, a, b⟩ := h.ok j s e n
      exact ⟨v, a, b.grow g⟩
  · have key : ∀ (c d : Nat) (y : Sl), c ≠ d → i = c → (Γ.set i r)[d]? = some y → y.own = true → (Γ.set i r)[c]? = some r → r.own = true → (σ.set i (some v))[c]? = some (some u) → (σ.set i (some v))[d]? = some (some u) → False := by
      intro c d y ncd hc ed od _ rr vc vd
      subst hc
      have hi : i < σ.length := by
        by_cases hi : i < σ.length
        · exact hi
        · rw [List.getElem?_eq_none (by simpa using hi)] at vc; cases vc
      rw [List.getElem?_set_self hi] at vc
      cases vc
      rw [List.getElem?_set_ne ncd] at ed vd
      have nx : y ≠ .x := by rintro rfl; cases od
      obtain ⟨v', e1, e2⟩ := h.ok d y ed nx
      rw [vd] at e1; cases e1
      obtain ⟨p, w, ep, _, _, hp⟩ := e2.own_at od
      have hn := q.2 rr p ep
      rw [hn] at hp; cases hp
    by_cases ha : i = a
    · have hl : i < Γ.length := by
        by_cases hi : i < Γ.length
        · exact hi
        · rw [List.getElem?_eq_none (by rw [ha] at hi; simpa using hi)] at ea; cases ea
      have es : s = r := by rw [← ha, List.getElem?_set_self hl] at ea; exact (Option.some.inj ea).symm
      subst es
      exact key a b t ne ha eb ob ea oa va vb
    · by_cases hb : i = b
      · have hl : i < Γ.length := by
          by_cases hi : i < Γ.length
          · exact hi
          · rw [List.getElem?_eq_none (by rw [hb] at hi; simpa using hi)] at eb; cases eb
        have es : t = r := by rw [← hb, List.getElem?_set_self hl] at eb; exact (Option.some.inj eb).symm
        subst es
        exact key b a s (Ne.symm ne) hb ea oa eb ob vb va
      · rw [List.getElem?_set_ne ha] at ea va
        rw [List.getElem?_set_ne hb] at eb vb
        exact h.sep a b s t u ne ea eb oa ob va vb
/-- a slot forgotten -/
theorem EnvOk.drop (h : EnvOk K B G H σ Γ) (i : Nat) : EnvOk K B G H σ (Γ.set i .x) := by
  have back : ∀ (j : Nat) s, (Γ.set i .x)[j]? = some s → s ≠ .x → Γ[j]? = some s := fun j s e n => by
    by_cases hj : i = j
    · subst hj
      by_cases hi : i < Γ.length
      · rw [List.getElem?_set_self hi] at e; cases e; exact absurd rfl n
      · rw [List.getElem?_eq_none (by simpa using hi)] at e; cases e
    · rw [List.getElem?_set_ne hj] at e; exact e
  refine ⟨by simpa using h.len, h.tt, fun j s e n => h.ok j s (back j s e n) n, fun a b s t u ne ea eb oa ob => ?_⟩
  exact h.sep a b s t u ne (back a s ea (by rintro rfl; cases oa)) (back b t eb (by rintro rfl; cases ob)) oa ob
/-- an owned list becomes data -/
theorem EnvOk.frz (h : EnvOk K B G H σ Γ) (k : Ok B G H) {i : Nat} {ds : List PyData} (e : Γ[i]? = some (.ol ds)) :
    ∃ G', Ext G G' ∧ Ok B G' H ∧ (∀ p, G p = none → G' p = none ∨ σ[i]? = some (some (.ref p))) ∧ EnvOk K B G' H σ (Γ.set i (.d (.list ds))) := by
  obtain ⟨v, e1, p, xs, ev, nb, z, hp, da⟩ := h.ok i _ e (by simp)
  subst ev
  have hi : i < Γ.length := (List.getElem?_eq_some_iff.mp e).1
  have eg : Ext G (upd G p (.lst xs)) := Ext.new z
  refine ⟨upd G p (.lst xs), eg, k.frz nb hp z, fun q hq => ?_, by simpa using h.len, h.tt, fun j s es n => ?_, fun a b s t u ne ea eb oa ob va vb => ?_⟩
  · by_cases hq' : q = p
    · subst hq'; exact .inr e1
    · exact .inl (by rw [upd_ne hq']; exact hq)
  · by_cases hj : i = j
    · subst hj
      rw [List.getElem?_set_self hi] at es
      cases es
      exact ⟨_, e1, .lst (SqL.of upd_same) (DpAll.ext eg _ _ da)⟩
    · rw [List.getElem?_set_ne hj] at es
      obtain ⟨v, a, b⟩ := h.ok j s es n
      refine ⟨v, a, ?_⟩
      cases s with
      | x => trivial
      | d d => exact Dp.ext eg _ _ b
      | ol dt =>
        obtain ⟨q, ys, e2, nb2, z2, q2, r2⟩ := b
        have nq : q ≠ p := fun z => h.sep i j _ _ (.ref p) hj e es rfl rfl e1 (by rw [a, e2, z])
        exact ⟨q, ys, e2, nb2, by rw [upd_ne nq]; exact z2, q2, DpAll.ext eg _ _ r2⟩
      | od dt =>
        obtain ⟨q, ys, e2, nb2, z2, q2, r2⟩ := b
        have nq : q ≠ p := fun z => h.sep i j _ _ (.ref p) hj e es rfl rfl e1 (by rw [a, e2, z])
        exact ⟨q, ys, e2, nb2, by rw [upd_ne nq]; exact z2, q2, r2.ext eg⟩
      | kd dt =>
        obtain ⟨q, ys, e2, nb2, z2, q2, r2⟩ := b
        have nq : q ≠ p := fun z => h.sep i j _ _ (.ref p) hj e es rfl rfl e1 (by rw [a, e2, z])
        exact ⟨q, ys, e2, nb2, by rw [upd_ne nq]; exact z2, q2, r2.ext eg⟩
      | bg => exact b
      | rv u => exact b
      | scr ns =>
        obtain ⟨c, e2, q⟩ := b
        exact ⟨c, e2, sqL_ext eg q⟩
      | exn a dx f d =>
        obtain ⟨e2, u, q, r⟩ := b
        exact ⟨e2, u, eg _ _ q, Dp.ext eg _ _ r⟩
      | pp φ => exact fun G2 e => b G2 (eg.trans e)
  · have back : ∀ (j : Nat) s, (Γ.set i (.d (.list ds)))[j]? = some s → s.own = true → Γ[j]? = some s := fun j s e n => by
      by_cases hj : i = j
      · subst hj
        rw [List.getElem?_set_self hi] at e; cases e; cases n
      · rw [List.getElem?_set_ne hj] at e; exact e
    exact h.sep a b s t u ne (back a s ea oa) (back b t eb ob) oa ob va vb
/-- an owned object is changed: n what it is behind -/
theorem EnvOk.mut (h : EnvOk K B G H σ Γ) {i : Nat} {s s' : Sl} {p : Addr} {u : HO} (e : Γ[i]? = some s) (o : s.own = true) (ev : σ[i]? = some (some (.ref p))) (hs : SlOk K B G (upd H p u) (.ref p) s') (os : s'.own = true) : EnvOk K B G (upd H p u) σ (Γ.set i s') := by
  have hi : i < Γ.length := (List.getElem?_eq_some_iff.mp e).1
  refine ⟨by simpa using h.len, h.tt, fun j s es n => ?_, fun a b s1 t v ne ea eb oa ob va vb => ?_⟩
  · by_cases hj : i = j
    · subst hj
      rw [List.getElem?_set_self hi] at es
      cases es
      exact ⟨_, ev, hs⟩
    · rw [List.getElem?_set_ne hj] at es
      obtain ⟨v, a, b⟩ := h.ok j s es n
      refine ⟨v, a, ?_⟩
      cases s with
      | x => trivial
      | d d => exact b
      | ol dt =>
        obtain ⟨q, ys, e2, nb2, z2, q2, r2⟩ := b
        have nq : q ≠ p := fun z => h.sep i j _ _ (.ref p) hj e es o rfl ev (by rw [a, e2, z])
        exact ⟨q, ys, e2, nb2, z2, by rw [upd_ne nq]; exact q2, r2⟩
      | od dt =>
        obtain ⟨q, ys, e2, nb2, z2, q2, r2⟩ := b
        have nq : q ≠ p := fun z => h.sep i j _ _ (.ref p) hj e es o rfl ev (by rw [a, e2, z])
        exact ⟨q, ys, e2, nb2, z2, by rw [upd_ne nq]; exact q2, r2⟩
      | kd dt =>
        obtain ⟨q, ys, e2, nb2, z2, q2, r2⟩ := b
        have nq : q ≠ p := fun z => h.sep i j _ _ (.ref p) hj e es o rfl ev (by rw [a, e2, z])
        exact ⟨q, ys, e2, nb2, z2, by rw [upd_ne nq]; exact q2, r2⟩
      | bg => exact b
      | rv u => exact b
      | scr ns => exact b
      | exn a dx f d => exact b
      | pp φ => exact b
  · have back : ∀ (j : Nat) t, (Γ.set i s')[j]? = some t → t.own = true → ∃ t', Γ[j]? = some t' ∧ t'.own = true := fun j t e' n => by
      by_cases hj : i = j
      · subst hj
        exact ⟨s, e, o⟩
      · rw [List.getElem?_set_ne hj] at e'; exact ⟨t, e', n⟩
    obtain ⟨s2, e2, o2⟩ := back a s1 ea oa
    obtain ⟨t2, e3, o3⟩ := back b t eb ob
    exact h.sep a b s2 t2 v ne e2 e3 o2 o3 va vb
end
end Ab
namespace Ab
open PySem PySem.Spec L2

/-! ### the semantic readings -/
def tE (X : Cx) (e : Expr) : TE := fun σ H Q => ∀ (pins : List (Addr × Obj)) (s : Shared), Inv X pins σ H s → wpAny (model X.prog X.w) X.A (eval e X.env) (EP X pins σ Q) X.xe s
def tT (X : Cx) (e : Expr) : TT := fun σ H Q => ∀ (pins : List (Addr × Obj)) (s : Shared), Inv X pins σ H s → wpAny (model X.prog X.w) X.A (isTrue e X.env (eval e X.env)) (TP X pins σ Q) X.xe s
def tA (X : Cx) (es : List Expr) : TA := fun σ H Q => ∀ (pos : Pos) (pins : List (Addr × Obj)) (s : Shared), Inv X pins σ H s → wpAny (model X.prog X.w) X.A (spliced (backTo pos (starEach es X.env))) (AP X pins σ Q) X.xe s
theorem pe_self {X : Cx} {e : Expr} : PE X e (tE X e) := ⟨fun pins s σ H Q I h => h pins s I⟩
theorem pt_self {X : Cx} {e : Expr} : PT X e (tT X e) := ⟨fun pins s σ H Q I h => h pins s I⟩
theorem pa_self {X : Cx} {es : List Expr} : PA X es (tA X es) := ⟨fun pos pins s σ H Q I h => h pos pins s I⟩
theorem tE_of {X : Cx} {e : Expr} {t : TE} {σ : L2.St} {H : Hp} {Q : VK} (h : PE X e t) (q : t σ H Q) : tE X e σ H Q := fun pins s I => h.run pins s σ H Q I q
theorem tT_of {X : Cx} {e : Expr} {t : TT} {σ : L2.St} {H : Hp} {Q : Bool → Hp → Prop} (h : PT X e t) (q : t σ H Q) : tT X e σ H Q := fun pins s I => h.run pins s σ H Q I q
theorem tA_of {X : Cx} {e : List Expr} {t : TA} {σ : L2.St} {H : Hp} {Q : List V → Hp → Prop} (h : PA X e t) (q : t σ H Q) : tA X e σ H Q := fun pos pins s I => h.run pos pins s σ H Q I q

/-! ### what is wanted of a value -/
def Sl.int (f : Int → Prop) : Sl → Prop
  | .d (.int i) => f i
  | _ => False
def Sl.bl (f : Bool → Prop) : Sl → Prop
  | .d (.bool b) => f b
  | _ => False
def Sl.tup (f : List PyData → Prop) : Sl → Prop
  | .d (.tuple ds) => f ds
  | _ => False
def Sl.dat (f : PyData → Prop) : Sl → Prop
  | .d z => f z
  | .ol ds => f (.list ds)
  | _ => False
def Sl.lst (f : List PyData → Prop) : Sl → Prop
  | .d (.list ds) => f ds
  | .ol ds => f ds
  | _ => False
/-- an argument: an owned list is given away -/
def Sl.arg (f : Sl → Prop) : Sl → Prop
  | .ol ds => f (.d (.list ds))
  | .od _ => False
  | .kd _ => False
  | .x => False
  | s => f s

/-! ### the judgements -/
structure EvE (X : Cx) (B : Bg) (e : Expr) (Γ : List Sl) (k : Sl → Prop) : Prop where
  run : ∀ (σ : L2.St) (G H : Hp) (Q : VK), Ok B G H → EnvOk X.K B G H σ Γ → (∀ v G' H' r, Grow B G H G' H' → Res X.K B H G' H' v r → k r → Q v H') → tE X e σ H Q
structure EvT (X : Cx) (B : Bg) (e : Expr) (Γ : List Sl) (k : Bool → Prop) : Prop where
  run : ∀ (σ : L2.St) (G H : Hp) (Q : Bool → Hp → Prop), Ok B G H → EnvOk X.K B G H σ Γ → (∀ b G' H', Grow B G H G' H' → k b → Q b H') → tT X e σ H Q
def ArgOk (K : PySem.W.Frag) (B : Bg) (G H : Hp) : List V → List Sl → Prop := Paired fun v r => r.own = false ∧ SlOk K B G H v r
structure EvA (X : Cx) (B : Bg) (es : List Expr) (Γ : List Sl) (k : List Sl → Prop) : Prop where
  run : ∀ (σ : L2.St) (G H : Hp) (Q : List V → Hp → Prop), Ok B G H → EnvOk X.K B G H σ Γ → (∀ vs G' H' rs, Grow B G H G' H' → ArgOk X.K B G' H' vs rs → k rs → Q vs H') → tA X es σ H Q
/-- as data that stays -/
structure EvD (X : Cx) (B : Bg) (e : Expr) (Γ : List Sl) (k : PyData → Prop) : Prop where
  run : ∀ (σ : L2.St) (G H : Hp) (Q : VK), Ok B G H → EnvOk X.K B G H σ Γ → (∀ v G' H' d, Grow B G H G' H' → Dp X.K G' v d → k d → Q v H') → tE X e σ H Q
/-- as data that is read -/
structure EvV (X : Cx) (B : Bg) (e : Expr) (Γ : List Sl) (k : PyData → Prop) : Prop where
  run : ∀ (σ : L2.St) (G H : Hp) (Q : VK), Ok B G H → EnvOk X.K B G H σ Γ → (∀ v G1 G' H' d, Grow B G H G' H' → Ext G' G1 → Ok B G1 H' → Dp X.K G1 v d → k d → Q v H') → tE X e σ H Q
/-- as a list that is read -/
structure EvL (X : Cx) (B : Bg) (e : Expr) (Γ : List Sl) (k : List PyData → Prop) : Prop where
  run : ∀ (σ : L2.St) (G H : Hp) (Q : VK), Ok B G H → EnvOk X.K B G H σ Γ → (∀ p xs G1 G' H' ds, Grow B G H G' H' → Ext G' G1 → Ok B G1 H' → L2.SqL X.K G1 p xs → DpAll X.K G' xs ds → k ds → Q (.ref p) H') → tE X e σ H Q
/-- a two-place operation by its rule -/
structure EvR (X : Cx) (B : Bg) (r : R2) (a b : Expr) (Γ : List Sl) (k : Sl → Prop) : Prop where
  run : ∀ (σ : L2.St) (G H : Hp) (Q : VK), Ok B G H → EnvOk X.K B G H σ Γ → (∀ v G' H' r, Grow B G H G' H' → Res X.K B H G' H' v r → k r → Q v H') → tOp r (tE X a) (tE X b) σ H Q

section
variable {X : Cx} {B : Bg} {e a b c : Expr} {es : List Expr} {Γ : List Sl} {k : Sl → Prop} {pos : Pos}

theorem Res.dat {K : PySem.W.Frag} {H G' H' : Hp} {v : V} {d : PyData} (h : Dp K G' v d) : Res K B H G' H' v (.d d) := ⟨h, fun z => by cases z⟩
theorem Res.toD {K : PySem.W.Frag} {G H G' H' : Hp} {v : V} {r : Sl} {f : PyData → Prop} (g : Grow B G H G' H') (h : Res K B H G' H' v r) (q : Sl.dat f r) : ∃ G2 d, Grow B G H G2 H' ∧ Dp K G2 v d ∧ f d := by
  cases r with
  | d d => exact ⟨G', d, g, h.1, q⟩
  | ol ds =>
    obtain ⟨⟨p, xs, e, nb, z, hp, da⟩, fr⟩ := h
    have hn := fr rfl p e
    subst e
    have eg : Ext G' (upd G' p (.lst xs)) := Ext.new z
    refine ⟨upd G' p (.lst xs), _, ⟨g.g.trans eg, g.h, fun x o e y => ?_, g.ok.frz nb hp z⟩, .lst (SqL.of upd_same) (DpAll.ext eg _ _ da), q⟩
    rw [upd_ne (ne_of_none e hn)]
    exact g.n x o e y
  | _ => exact q.elim
theorem EvD.of {f : PyData → Prop} (h : EvE X B e Γ (Sl.dat f)) : EvD X B e Γ f := ⟨fun σ G H Q o en q => h.run σ G H Q o en fun v G' H' r g re kr => by
  obtain ⟨G2, d, g2, hd, fd⟩ := re.toD g kr
  exact q v G2 H' d g2 hd fd⟩
theorem EvV.of {f : PyData → Prop} (h : EvE X B e Γ (Sl.dat f)) : EvV X B e Γ f := ⟨fun σ G H Q o en q => h.run σ G H Q o en fun v G' H' r g re kr => by
  obtain ⟨G2, d, g2, hd, fd⟩ := re.toD g kr
  exact q v G2 G2 H' d g2 (Ext.refl _) g2.ok hd fd⟩
theorem EvL.of {f : List PyData → Prop} (h : EvE X B e Γ (Sl.lst f)) : EvL X B e Γ f := ⟨fun σ G H Q o en q => h.run σ G H Q o en fun v G' H' r g re kr => by
  cases r with
  | d d =>
    cases d with
    | list ds =>
      obtain ⟨p, xs, e, hs, ha⟩ := Dp.lst_inv re.1
      subst e
      exact q p xs G' G' H' ds g (Ext.refl _) g.ok hs.up ha kr
    | _ => exact kr.elim
  | ol ds =>
    obtain ⟨⟨p, xs, e, nb, z, hp, da⟩, fr⟩ := re
    subst e
    exact q p xs (upd G' p (.lst xs)) G' H' ds g (Ext.new z) (g.ok.frz nb hp z) (L2.SqL.of upd_same) da kr
  | _ => exact kr.elim⟩

theorem ee_mono {k0 : Sl → Prop} (h : EvE X B e Γ k0) (q : ∀ r, k0 r → k r) : EvE X B e Γ k := ⟨fun σ G H Q o en c => h.run σ G H Q o en fun v G' H' r g re kr => c v G' H' r g re (q r kr)⟩
theorem et_mono {f f0 : Bool → Prop} (h : EvT X B e Γ f0) (q : ∀ r, f0 r → f r) : EvT X B e Γ f := ⟨fun σ G H Q o en c => h.run σ G H Q o en fun v G' H' g kr => c v G' H' g (q v kr)⟩
/-- its value is d -/
theorem ee_is {d : PyData} (h : EvE X B e Γ fun r => r = .d d) (q : k (.d d)) : EvE X B e Γ k := ee_mono h fun r e => by rw [e]; exact q
/-- its answer is t -/
theorem et_is {t : Bool} {f : Bool → Prop} (h : EvT X B e Γ fun r => r = t) (q : f t) : EvT X B e Γ f := et_mono h fun r e => by rw [e]; exact q
/-! ### names, constants -/
def Sl.plain : Sl → Bool
  | .d _ => true
  | .bg => true
  | .rv _ => true
  | .scr _ => true
  | .exn _ _ _ _ => true
  | .pp _ => true
  | _ => false
theorem ee_var (i : Nat) {x : Str} {s : Sl} (hg : Γ[i]? = some s) (q : k s) (hp : s.plain = true := by rfl) (hN : X.N[i]? = some x := by rfl) (hv : Vis X.env.scope x := by first | exact Or.inl rfl | exact Or.inr (Or.inl rfl) | exact Or.inr (Or.inr rfl))
    (hd : (x == ("__debug__" : Str)) = false := by decide) (hcd : (x == ("__classdict__" : Str)) = false := by decide) : EvE X B (.Name x pos) Γ k := ⟨fun σ G H Q o en cont => by
  obtain ⟨v, e, hs⟩ := en.ok i s hg (by rintro rfl; cases hp)
  exact tE_of (pe_var hN hv hd hcd) ⟨v, e, cont v G H s (Grow.refl o) ⟨hs, fun z => by cases s <;> first | (cases z; done) | (cases hp; done)⟩ q⟩⟩
/-- an owned list, read -/
theorem ev_own (i : Nat) {x : Str} {ds : List PyData} {f : PyData → Prop} (hg : Γ[i]? = some (.ol ds)) (q : f (.list ds)) (hN : X.N[i]? = some x := by rfl) (hv : Vis X.env.scope x := by first | exact Or.inl rfl | exact Or.inr (Or.inl rfl) | exact Or.inr (Or.inr rfl))
    (hd : (x == ("__debug__" : Str)) = false := by decide) (hcd : (x == ("__classdict__" : Str)) = false := by decide) : EvV X B (.Name x pos) Γ f := ⟨fun σ G H Q o en cont => by
  obtain ⟨v, e, p, xs, ev, nb, z, hp, da⟩ := en.ok i _ hg (by simp)
  subst ev
  exact tE_of (pe_var hN hv hd hcd) ⟨_, e, cont _ (upd G p (.lst xs)) G H _ (Grow.refl o) (Ext.new z) (o.frz nb hp z) (.lst (SqL.of upd_same) (DpAll.ext (Ext.new z) _ _ da)) q⟩⟩
theorem el_own (i : Nat) {x : Str} {ds : List PyData} {f : List PyData → Prop} (hg : Γ[i]? = some (.ol ds)) (q : f ds) (hN : X.N[i]? = some x := by rfl) (hv : Vis X.env.scope x := by first | exact Or.inl rfl | exact Or.inr (Or.inl rfl) | exact Or.inr (Or.inr rfl))
    (hd : (x == ("__debug__" : Str)) = false := by decide) (hcd : (x == ("__classdict__" : Str)) = false := by decide) : EvL X B (.Name x pos) Γ f := ⟨fun σ G H Q o en cont => by
  obtain ⟨v, e, p, xs, ev, nb, z, hp, da⟩ := en.ok i _ hg (by simp)
  subst ev
  exact tE_of (pe_var hN hv hd hcd) ⟨_, e, cont p xs (upd G p (.lst xs)) G H _ (Grow.refl o) (Ext.new z) (o.frz nb hp z) (L2.SqL.of upd_same) da q⟩⟩
theorem el_scr (i : Nat) {x : Str} {ns : List Int} {f : List PyData → Prop} (hg : Γ[i]? = some (.scr ns)) (q : f (ns.map .int)) (hN : X.N[i]? = some x := by rfl) (hv : Vis X.env.scope x := by first | exact Or.inl rfl | exact Or.inr (Or.inl rfl) | exact Or.inr (Or.inr rfl))
    (hd : (x == ("__debug__" : Str)) = false := by decide) (hcd : (x == ("__classdict__" : Str)) = false := by decide) : EvL X B (.Name x pos) Γ f := ⟨fun σ G H Q o en cont => by
  obtain ⟨v, e, a, ev, hs⟩ := en.ok i _ hg (by simp)
  subst ev
  exact tE_of (pe_var hN hv hd hcd) ⟨_, e, cont a _ G G H _ (Grow.refl o) (Ext.refl _) o hs (DpAll.ints ns) q⟩⟩
theorem ev_var (i : Nat) {x : Str} {d : PyData} {f : PyData → Prop} (hg : Γ[i]? = some (.d d)) (q : f d) (hN : X.N[i]? = some x := by rfl) (hv : Vis X.env.scope x := by first | exact Or.inl rfl | exact Or.inr (Or.inl rfl) | exact Or.inr (Or.inr rfl))
    (hd : (x == ("__debug__" : Str)) = false := by decide) (hcd : (x == ("__classdict__" : Str)) = false := by decide) : EvV X B (.Name x pos) Γ f := EvV.of (ee_var i hg q rfl hN hv hd hcd)
theorem el_var (i : Nat) {x : Str} {ds : List PyData} {f : List PyData → Prop} (hg : Γ[i]? = some (.d (.list ds))) (q : f ds) (hN : X.N[i]? = some x := by rfl) (hv : Vis X.env.scope x := by first | exact Or.inl rfl | exact Or.inr (Or.inl rfl) | exact Or.inr (Or.inr rfl))
    (hd : (x == ("__debug__" : Str)) = false := by decide) (hcd : (x == ("__classdict__" : Str)) = false := by decide) : EvL X B (.Name x pos) Γ f := EvL.of (ee_var i hg q rfl hN hv hd hcd)
theorem ee_pure {t : TE} (hp : PE X e t) {d : PyData} {v : V} (ht : ∀ σ H Q, Q v H → t σ H Q) (hd : ∀ G, Dp X.K G v d) (q : k (.d d)) : EvE X B e Γ k :=
  ⟨fun σ G H Q o en cont => tE_of hp (ht σ H Q (cont v G H _ (Grow.refl o) (Res.dat (hd G)) q))⟩
theorem ee_int {i : Int} {j} (q : k (.d (.int i))) : EvE X B (.Constant (.int i) j pos) Γ k := ee_pure pe_int (fun _ _ _ h => h) (fun _ => .int i) q
theorem ee_bl {i : Bool} {j} (q : k (.d (.bool i))) : EvE X B (.Constant (.bool i) j pos) Γ k := ee_pure pe_bl (fun _ _ _ h => h) (fun _ => .bl i) q
theorem ee_non {j} (q : k (.d .none)) : EvE X B (.Constant .none j pos) Γ k := ee_pure pe_non (fun _ _ _ h => h) (fun _ => .non) q
theorem ee_str {x : Str} {j} (q : k (.d (.str x))) : EvE X B (.Constant (.str x) j pos) Γ k := ee_pure pe_str (fun _ _ _ h => h) (fun _ => .str x) q
/-- a module's constant that is an int -/
theorem ee_gint {x : Str} {i : Int} (hm : ∃ t, X.mg x = some (.int i t)) (q : k (.d (.int i))) (hg : Gl X x := by rfl) (hd : (x == ("__debug__" : Str)) = false := by decide) : EvE X B (.Name x pos) Γ k := by
  obtain ⟨t, hm⟩ := hm
  exact ee_pure (pe_glob (v := .int i) hg hm ⟨t, rfl⟩ hd) (fun _ _ _ h => h) (fun _ => .int i) q

/-! ### operators -/
theorem ee_bop {op : Operator} {r : R2} (ho : OpR X (binaryOp op) r) (h : EvR X B r a b Γ k) : EvE X B (.BinOp a op b pos) Γ k :=
  ⟨fun σ G H Q o en cont => tE_of (pe_op ho pe_self pe_self) (h.run σ G H Q o en cont)⟩
theorem ee_cop {op : CmpOp} {r : R2} (ho : OpR X (compareOp op) r) (hm : behindInMarks op b = false) (h : EvR X B r a b Γ k) : EvE X B (.Compare a [op] [b] pos) Γ k :=
  ⟨fun σ G H Q o en cont => tE_of (pe_cmpR ho pe_self pe_self hm) (h.run σ G H Q o en cont)⟩
theorem et_cop {op : CmpOp} {r : R2} {f : Bool → Prop} (ho : OpR X (compareOp op) r) (hm : behindInMarks op b = false) (h : EvR X B r a b Γ (Sl.bl f)) : EvT X B (.Compare a [op] [b] pos) Γ f :=
  ⟨fun σ G H Q o en cont => tT_of (pt_cmpR ho pe_self pe_self hm) (h.run σ G H (fun x H' => ∃ k, x = .bl k ∧ Q k H') o en fun v G' H' r g re kr => by
    cases r with
    | d d =>
      cases d with
      | bool b =>
        have h1 : Dp X.K G' v (.bool b) := re.1
        cases h1
        exact ⟨b, rfl, cont b G' H' g kr⟩
      | _ => exact kr.elim
    | _ => exact kr.elim)⟩
theorem int_inv {K : PySem.W.Frag} {H G' H' : Hp} {v : V} {r : Sl} {f : Int → Prop} (re : Res K B H G' H' v r) (kr : Sl.int f r) : ∃ i, v = .int i ∧ f i := by
  cases r with
  | d d =>
    cases d with
    | int i =>
      have h1 : Dp K G' v (.int i) := re.1
      cases h1
      exact ⟨i, rfl, kr⟩
    | _ => exact kr.elim
  | _ => exact kr.elim
theorem bl_inv {K : PySem.W.Frag} {H G' H' : Hp} {v : V} {r : Sl} {f : Bool → Prop} (re : Res K B H G' H' v r) (kr : Sl.bl f r) : ∃ i, v = .bl i ∧ f i := by
  cases r with
  | d d =>
    cases d with
    | bool i =>
      have h1 : Dp K G' v (.bool i) := re.1
      cases h1
      exact ⟨i, rfl, kr⟩
    | _ => exact kr.elim
  | _ => exact kr.elim
theorem tup_inv {K : PySem.W.Frag} {H G' H' : Hp} {v : V} {r : Sl} {f : List PyData → Prop} (re : Res K B H G' H' v r) (kr : Sl.tup f r) : ∃ p xs ds, v = .ref p ∧ SqT K G' p xs ∧ DpAll K G' xs ds ∧ f ds := by
  cases r with
  | d d =>
    cases d with
    | tuple ds =>
      obtain ⟨p, xs, e, h1, h2⟩ := Dp.tup_inv (show Dp K G' v (.tuple ds) from re.1)
      exact ⟨p, xs, ds, e, h1, h2, kr⟩
    | _ => exact kr.elim
  | _ => exact kr.elim
theorem er_int {C : Int → Int → Prop} {g : Int → Int → V} (d : Int → Int → PyData) (hg : ∀ G i j, Dp X.K G (g i j) (d i j)) (h : EvE X B a Γ (Sl.int fun i => EvE X B b Γ (Sl.int fun j => C i j ∧ k (.d (d i j))))) : EvR X B (rI C g) a b Γ k :=
  ⟨fun σ G H Q o en cont => h.run σ G H _ o en fun v G1 H1 r1 g1 re1 k1 => by
    obtain ⟨i, ei, q1⟩ := int_inv re1 k1
    refine q1.run σ G1 H1 _ g1.ok (en.grow g1) fun w G2 H2 r2 g2 re2 k2 => ?_
    obtain ⟨j, ej, q2⟩ := int_inv re2 k2
    exact ⟨i, j, ei, ej, q2.1, cont _ G2 H2 _ (g1.trans g2) (Res.dat (hg G2 i j)) q2.2⟩⟩
theorem er_int0 {g : Int → Int → V} (d : Int → Int → PyData) (hg : ∀ G i j, Dp X.K G (g i j) (d i j)) (h : EvE X B a Γ (Sl.int fun i => EvE X B b Γ (Sl.int fun j => k (.d (d i j))))) : EvR X B (rI0 g) a b Γ k :=
  ⟨fun σ G H Q o en cont => h.run σ G H _ o en fun v G1 H1 r1 g1 re1 k1 => by
    obtain ⟨i, ei, q1⟩ := int_inv re1 k1
    refine q1.run σ G1 H1 _ g1.ok (en.grow g1) fun w G2 H2 r2 g2 re2 k2 => ?_
    obtain ⟨j, ej, q2⟩ := int_inv re2 k2
    exact ⟨i, j, ei, ej, cont _ G2 H2 _ (g1.trans g2) (Res.dat (hg G2 i j)) q2⟩⟩
theorem ee_add (h : EvE X B a Γ (Sl.int fun i => EvE X B b Γ (Sl.int fun j => k (.d (.int (i + j)))))) : EvE X B (.BinOp a .Add b pos) Γ k := ee_bop op_add (er_int0 _ (fun _ _ _ => .int _) h)
theorem ee_sub (h : EvE X B a Γ (Sl.int fun i => EvE X B b Γ (Sl.int fun j => k (.d (.int (i - j)))))) : EvE X B (.BinOp a .Sub b pos) Γ k := ee_bop op_sub (er_int0 _ (fun _ _ _ => .int _) h)
theorem ee_mul (h : EvE X B a Γ (Sl.int fun i => EvE X B b Γ (Sl.int fun j => CMul i j ∧ k (.d (.int (i * j)))))) : EvE X B (.BinOp a .Mult b pos) Γ k := ee_bop op_mul (er_int _ (fun _ _ _ => .int _) h)
theorem ee_fdiv (h : EvE X B a Γ (Sl.int fun i => EvE X B b Γ (Sl.int fun j => CDiv i j ∧ k (.d (.int (i / j)))))) : EvE X B (.BinOp a .FloorDiv b pos) Γ k := ee_bop op_fdiv (er_int _ (fun _ _ _ => .int _) h)
theorem ee_mod (h : EvE X B a Γ (Sl.int fun i => EvE X B b Γ (Sl.int fun j => 0 < j ∧ k (.d (.int (i % j)))))) : EvE X B (.BinOp a .Mod b pos) Γ k := ee_bop op_mod (er_int _ (fun _ _ _ => .int _) h)
theorem ee_pow (h : EvE X B a Γ (Sl.int fun i => EvE X B b Γ (Sl.int fun j => CPow i j ∧ k (.d (.int (i ^ j.toNat)))))) : EvE X B (.BinOp a .Pow b pos) Γ k := ee_bop op_pow (er_int _ (fun _ _ _ => .int _) h)
theorem ee_shl (h : EvE X B a Γ (Sl.int fun i => EvE X B b Γ (Sl.int fun j => CPow i j ∧ k (.d (.int (i * 2 ^ j.toNat)))))) : EvE X B (.BinOp a .LShift b pos) Γ k := ee_bop op_shl (er_int _ (fun _ _ _ => .int _) h)
theorem ee_neg (h : EvE X B a Γ (Sl.int fun i => k (.d (.int (-i))))) : EvE X B (.UnaryOp .USub a pos) Γ k :=
  ⟨fun σ G H Q o en cont => tE_of (pe_un un_neg pe_self) (h.run σ G H _ o en fun v G1 H1 r1 g1 re1 k1 => by
    obtain ⟨i, ei, q1⟩ := int_inv re1 k1
    exact ⟨i, ei, cont _ G1 H1 _ g1 (Res.dat (.int _)) q1⟩)⟩
theorem ee_lt (h : EvE X B a Γ (Sl.int fun i => EvE X B b Γ (Sl.int fun j => k (.d (.bool (decide (i < j))))))) : EvE X B (.Compare a [.Lt] [b] pos) Γ k := ee_cop op_lt (nomark _) (er_int0 _ (fun _ _ _ => .bl _) h)
theorem ee_le (h : EvE X B a Γ (Sl.int fun i => EvE X B b Γ (Sl.int fun j => k (.d (.bool (decide (i ≤ j))))))) : EvE X B (.Compare a [.LtE] [b] pos) Γ k := ee_cop op_le (nomark _) (er_int0 _ (fun _ _ _ => .bl _) h)
theorem ee_gt (h : EvE X B a Γ (Sl.int fun i => EvE X B b Γ (Sl.int fun j => k (.d (.bool (decide (j < i))))))) : EvE X B (.Compare a [.Gt] [b] pos) Γ k := ee_cop op_gt (nomark _) (er_int0 _ (fun _ _ _ => .bl _) h)
theorem ee_ge (h : EvE X B a Γ (Sl.int fun i => EvE X B b Γ (Sl.int fun j => k (.d (.bool (decide (j ≤ i))))))) : EvE X B (.Compare a [.GtE] [b] pos) Γ k := ee_cop op_ge (nomark _) (er_int0 _ (fun _ _ _ => .bl _) h)
theorem et_lt {f : Bool → Prop} (h : EvE X B a Γ (Sl.int fun i => EvE X B b Γ (Sl.int fun j => f (decide (i < j))))) : EvT X B (.Compare a [.Lt] [b] pos) Γ f := et_cop op_lt (nomark _) (er_int0 _ (fun _ _ _ => .bl _) h)
theorem et_le {f : Bool → Prop} (h : EvE X B a Γ (Sl.int fun i => EvE X B b Γ (Sl.int fun j => f (decide (i ≤ j))))) : EvT X B (.Compare a [.LtE] [b] pos) Γ f := et_cop op_le (nomark _) (er_int0 _ (fun _ _ _ => .bl _) h)
theorem et_gt {f : Bool → Prop} (h : EvE X B a Γ (Sl.int fun i => EvE X B b Γ (Sl.int fun j => f (decide (j < i))))) : EvT X B (.Compare a [.Gt] [b] pos) Γ f := et_cop op_gt (nomark _) (er_int0 _ (fun _ _ _ => .bl _) h)
theorem et_ge {f : Bool → Prop} (h : EvE X B a Γ (Sl.int fun i => EvE X B b Γ (Sl.int fun j => f (decide (j ≤ i))))) : EvT X B (.Compare a [.GtE] [b] pos) Γ f := et_cop op_ge (nomark _) (er_int0 _ (fun _ _ _ => .bl _) h)
/-! equality of data -/
theorem er_eq (h : EvV X B a Γ fun x => EvV X B b Γ fun y => SeqAt.shaped x = true ∧ SeqAt.shaped y = true ∧ k (.d (.bool (PyData.eqv x y)))) : EvR X B (rEqD X.K) a b Γ k :=
  ⟨fun σ G H Q o en cont => h.run σ G H _ o en fun v G1 G' H' x g1 e1 o1 d1 k1 => k1.run σ G' H' _ g1.ok (en.grow g1) fun w G2 G3 H2 y g2 e2 o2 d2 k2 =>
    ⟨x, y, Dp.ext (g2.keep o1) _ _ d1, Dp.ext o2.ex _ _ d2, k2.1, k2.2.1, cont _ G3 H2 _ (g1.trans g2) (Res.dat (.bl _)) k2.2.2⟩⟩
theorem er_ne (h : EvV X B a Γ fun x => EvV X B b Γ fun y => SeqAt.shaped x = true ∧ SeqAt.shaped y = true ∧ k (.d (.bool (!PyData.eqv x y)))) : EvR X B (rNeD X.K) a b Γ k :=
  ⟨fun σ G H Q o en cont => h.run σ G H _ o en fun v G1 G' H' x g1 e1 o1 d1 k1 => k1.run σ G' H' _ g1.ok (en.grow g1) fun w G2 G3 H2 y g2 e2 o2 d2 k2 =>
    ⟨x, y, Dp.ext (g2.keep o1) _ _ d1, Dp.ext o2.ex _ _ d2, k2.1, k2.2.1, cont _ G3 H2 _ (g1.trans g2) (Res.dat (.bl _)) k2.2.2⟩⟩
theorem hu64 {k0 : Nat} {A : Around} (hr : Room k0 A) : A.units + 64 < cLine := hr.units
theorem ee_eq {k0 : Nat} (hr : Room k0 X.A) (h : EvV X B a Γ fun x => EvV X B b Γ fun y => SeqAt.shaped x = true ∧ SeqAt.shaped y = true ∧ k (.d (.bool (PyData.eqv x y)))) : EvE X B (.Compare a [.Eq] [b] pos) Γ k := ee_cop (op_eqD (hu64 hr)) (nomark _) (er_eq h)
theorem ee_ne {k0 : Nat} (hr : Room k0 X.A) (h : EvV X B a Γ fun x => EvV X B b Γ fun y => SeqAt.shaped x = true ∧ SeqAt.shaped y = true ∧ k (.d (.bool (!PyData.eqv x y)))) : EvE X B (.Compare a [.NotEq] [b] pos) Γ k := ee_cop (op_neD (hu64 hr)) (nomark _) (er_ne h)
theorem et_eq {k0 : Nat} {f : Bool → Prop} (hr : Room k0 X.A) (h : EvV X B a Γ fun x => EvV X B b Γ fun y => SeqAt.shaped x = true ∧ SeqAt.shaped y = true ∧ f (PyData.eqv x y)) : EvT X B (.Compare a [.Eq] [b] pos) Γ f := et_cop (op_eqD (hu64 hr)) (nomark _) (er_eq h)
theorem et_ne {k0 : Nat} {f : Bool → Prop} (hr : Room k0 X.A) (h : EvV X B a Γ fun x => EvV X B b Γ fun y => SeqAt.shaped x = true ∧ SeqAt.shaped y = true ∧ f (!PyData.eqv x y)) : EvT X B (.Compare a [.NotEq] [b] pos) Γ f := et_cop (op_neD (hu64 hr)) (nomark _) (er_ne h)
theorem er_eqI (h : EvE X B a Γ (Sl.int fun i => EvE X B b Γ (Sl.int fun j => k (.d (.bool (decide (i = j))))))) : EvR X B rEq a b Γ k :=
  ⟨fun σ G H Q o en cont => h.run σ G H _ o en fun v G1 H1 r1 g1 re1 k1 => by
    obtain ⟨i, rfl, q1⟩ := int_inv re1 k1
    refine q1.run σ G1 H1 _ g1.ok (en.grow g1) fun w G2 H2 r2 g2 re2 k2 => ?_
    obtain ⟨j, rfl, q2⟩ := int_inv re2 k2
    refine ⟨rfl, ?_⟩
    have e : decide ((V.int i) = .int j) = decide (i = j) := by
      by_cases h : i = j
      · rw [decide_eq_true h, h]; simp
      · rw [decide_eq_false h, decide_eq_false (fun z => h (V.int.inj z))]
    rw [e]
    exact cont _ G2 H2 _ (g1.trans g2) (Res.dat (.bl _)) q2⟩
theorem er_neI (h : EvE X B a Γ (Sl.int fun i => EvE X B b Γ (Sl.int fun j => k (.d (.bool (!decide (i = j))))))) : EvR X B rNe a b Γ k :=
  ⟨fun σ G H Q o en cont => h.run σ G H _ o en fun v G1 H1 r1 g1 re1 k1 => by
    obtain ⟨i, rfl, q1⟩ := int_inv re1 k1
    refine q1.run σ G1 H1 _ g1.ok (en.grow g1) fun w G2 H2 r2 g2 re2 k2 => ?_
    obtain ⟨j, rfl, q2⟩ := int_inv re2 k2
    refine ⟨rfl, ?_⟩
    have e : decide ((V.int i) = .int j) = decide (i = j) := by
      by_cases h : i = j
      · rw [decide_eq_true h, h]; simp
      · rw [decide_eq_false h, decide_eq_false (fun z => h (V.int.inj z))]
    rw [e]
    exact cont _ G2 H2 _ (g1.trans g2) (Res.dat (.bl _)) q2⟩
theorem ee_eqI (h : EvE X B a Γ (Sl.int fun i => EvE X B b Γ (Sl.int fun j => k (.d (.bool (decide (i = j))))))) : EvE X B (.Compare a [.Eq] [b] pos) Γ k := ee_cop op_eq (nomark _) (er_eqI h)
theorem ee_neI (h : EvE X B a Γ (Sl.int fun i => EvE X B b Γ (Sl.int fun j => k (.d (.bool (!decide (i = j))))))) : EvE X B (.Compare a [.NotEq] [b] pos) Γ k := ee_cop op_ne (nomark _) (er_neI h)
theorem et_eqI {f : Bool → Prop} (h : EvE X B a Γ (Sl.int fun i => EvE X B b Γ (Sl.int fun j => f (decide (i = j))))) : EvT X B (.Compare a [.Eq] [b] pos) Γ f := et_cop op_eq (nomark _) (er_eqI h)
theorem et_neI {f : Bool → Prop} (h : EvE X B a Γ (Sl.int fun i => EvE X B b Γ (Sl.int fun j => f (!decide (i = j))))) : EvT X B (.Compare a [.NotEq] [b] pos) Γ f := et_cop op_ne (nomark _) (er_neI h)
/-! is None -/
def isNon : PyData → Bool
  | .none => true
  | _ => false
theorem isNon_of {K : PySem.W.Frag} {G : Hp} {v : V} {d : PyData} (h : Dp K G v d) : decide (v = .non) = isNon d := by
  cases h <;> rfl
theorem er_isN {p2 : Pos} {j} {f : PyData → Prop} (h : EvV X B a Γ fun x => k (.d (.bool (isNon x)))) : EvR X B (fun x y H Q => y = .non ∧ Q (.bl (decide (x = .non))) H) a (.Constant .none j p2) Γ k :=
  ⟨fun σ G H Q o en cont => h.run σ G H _ o en fun v G1 G' H' x g1 e1 o1 d1 k1 => tE_of pe_non (show (_ ∧ _) from ⟨rfl, by
    rw [isNon_of d1]
    exact cont _ G' H' _ g1 (Res.dat (.bl _)) k1⟩)⟩
theorem er_notN {p2 : Pos} {j} {f : PyData → Prop} (h : EvV X B a Γ fun x => k (.d (.bool (!isNon x)))) : EvR X B (fun x y H Q => y = .non ∧ Q (.bl (!decide (x = .non))) H) a (.Constant .none j p2) Γ k :=
  ⟨fun σ G H Q o en cont => h.run σ G H _ o en fun v G1 G' H' x g1 e1 o1 d1 k1 => tE_of pe_non (show (_ ∧ _) from ⟨rfl, by
    rw [isNon_of d1]
    exact cont _ G' H' _ g1 (Res.dat (.bl _)) k1⟩)⟩
theorem ee_isN {p2 : Pos} {j} (h : EvV X B a Γ fun x => k (.d (.bool (isNon x)))) : EvE X B (.Compare a [.Is] [.Constant .none j p2] pos) Γ k := ee_cop op_isN (nomark _) (er_isN (f := fun _ => True) h)
theorem ee_notN {p2 : Pos} {j} (h : EvV X B a Γ fun x => k (.d (.bool (!isNon x)))) : EvE X B (.Compare a [.IsNot] [.Constant .none j p2] pos) Γ k := ee_cop op_notN (nomark _) (er_notN (f := fun _ => True) h)
theorem et_isN {p2 : Pos} {j} {f : Bool → Prop} (h : EvV X B a Γ fun x => f (isNon x)) : EvT X B (.Compare a [.Is] [.Constant .none j p2] pos) Γ f := et_cop op_isN (nomark _) (er_isN (f := fun _ => True) h)
theorem et_notN {p2 : Pos} {j} {f : Bool → Prop} (h : EvV X B a Γ fun x => f (!isNon x)) : EvT X B (.Compare a [.IsNot] [.Constant .none j p2] pos) Γ f := et_cop op_notN (nomark _) (er_notN (f := fun _ => True) h)
/-! in, not in: a tuple or a list of ints -/
def inI (i : Int) (ns : List Int) : Bool := ns.any fun j => j == i
theorem inV_ints (i : Int) : ∀ ns : List Int, inV (.int i) (ns.map V.int) = inI i ns := fun ns => by
  unfold inV inI
  rw [List.any_map]
  rfl
theorem flat_ints : ∀ ns : List Int, (ns.map V.int).all flatV = true := fun ns => by
  rw [List.all_map]
  exact List.all_eq_true.mpr fun _ _ => rfl
theorem inI_iff {i : Int} {ns : List Int} : inI i ns = true ↔ i ∈ ns := by
  unfold inI
  rw [List.any_eq_true]
  constructor
  · rintro ⟨j, hj, e⟩
    rw [← beq_iff_eq.mp e]; exact hj
  · intro h
    exact ⟨i, h, beq_self_eq_true i⟩
def Sl.tupI (f : List Int → Prop) : Sl → Prop := Sl.tup fun ds => ∃ ns : List Int, ds = ns.map .int ∧ f ns
theorem er_in {neg : Bool} (h : EvE X B a Γ (Sl.int fun i => EvV X B b Γ fun y => ∃ ns : List Int, (y = .tuple (ns.map .int) ∨ y = .list (ns.map .int)) ∧ k (.d (.bool (if neg then !inI i ns else inI i ns))))) : EvR X B (rIn X.K neg) a b Γ k :=
  ⟨fun σ G H Q o en cont => h.run σ G H _ o en fun v G1 H1 r1 g1 re1 k1 => by
    obtain ⟨i, ei, q1⟩ := int_inv re1 k1
    subst ei
    refine q1.run σ G1 H1 _ g1.ok (en.grow g1) fun w G2 G3 H2 y g2 e2 o2 d2 k2 => ?_
    obtain ⟨ns, hy, q2⟩ := k2
    have fin : Q (.bl (if neg then !inV (.int i) (ns.map V.int) else inV (.int i) (ns.map V.int))) H2 := by
      rw [inV_ints]
      exact cont _ G3 H2 _ (g1.trans g2) (Res.dat (.bl _)) q2
    rcases hy with rfl | rfl
    · obtain ⟨p, xs, e, hs, ha⟩ := Dp.tup_inv d2
      subst e
      rw [DpAll.ints_inv ha] at hs
      exact ⟨p, _, rfl, .inr (SqT.ext o2.ex hs), rfl, flat_ints ns, fin⟩
    · obtain ⟨p, xs, e, hs, ha⟩ := Dp.lst_inv d2
      subst e
      rw [DpAll.ints_inv ha] at hs
      exact ⟨p, _, rfl, .inl (SqL.ext o2.ex hs), rfl, flat_ints ns, fin⟩⟩
theorem ee_in (h : EvE X B a Γ (Sl.int fun i => EvV X B b Γ fun y => ∃ ns : List Int, (y = .tuple (ns.map .int) ∨ y = .list (ns.map .int)) ∧ k (.d (.bool (inI i ns))))) (hm : behindInMarks .In b = false := by with_unfolding_all rfl) : EvE X B (.Compare a [.In] [b] pos) Γ k :=
  ee_cop op_in_seq hm (er_in (neg := false) h)
theorem ee_notIn (h : EvE X B a Γ (Sl.int fun i => EvV X B b Γ fun y => ∃ ns : List Int, (y = .tuple (ns.map .int) ∨ y = .list (ns.map .int)) ∧ k (.d (.bool (!inI i ns))))) (hm : behindInMarks .NotIn b = false := by with_unfolding_all rfl) : EvE X B (.Compare a [.NotIn] [b] pos) Γ k :=
  ee_cop op_notIn_seq hm (er_in (neg := true) h)
theorem et_in {f : Bool → Prop} (h : EvE X B a Γ (Sl.int fun i => EvV X B b Γ fun y => ∃ ns : List Int, (y = .tuple (ns.map .int) ∨ y = .list (ns.map .int)) ∧ f (inI i ns))) (hm : behindInMarks .In b = false := by with_unfolding_all rfl) : EvT X B (.Compare a [.In] [b] pos) Γ f :=
  et_cop op_in_seq hm (er_in (neg := false) h)
theorem et_notIn {f : Bool → Prop} (h : EvE X B a Γ (Sl.int fun i => EvV X B b Γ fun y => ∃ ns : List Int, (y = .tuple (ns.map .int) ∨ y = .list (ns.map .int)) ∧ f (!inI i ns))) (hm : behindInMarks .NotIn b = false := by with_unfolding_all rfl) : EvT X B (.Compare a [.NotIn] [b] pos) Γ f :=
  et_cop op_notIn_seq hm (er_in (neg := true) h)

/-! ### and, or, not, if else -/
theorem et_val {f : Bool → Prop} (h : EvE X B e Γ (Sl.bl f)) (he : ∀ whole, isTrue e X.env whole = (do let v ← whole; standAt e.pos; holding [v] (truthy v)) := by intro _; rfl) : EvT X B e Γ f :=
  ⟨fun σ G H Q o en cont => tT_of (pt_val pe_self he) (h.run σ G H _ o en fun v G1 H1 r1 g1 re1 k1 => by
    obtain ⟨i, ei, q1⟩ := bl_inv re1 k1
    exact ⟨i, ei, cont i G1 H1 g1 q1⟩)⟩
theorem et_not {f : Bool → Prop} (h : EvT X B a Γ fun b => f (!b)) : EvT X B (.UnaryOp .Not a pos) Γ f :=
  ⟨fun σ G H Q o en cont => tT_of (pt_not pt_self) (h.run σ G H _ o en fun b G1 H1 g1 k1 => cont _ G1 H1 g1 k1)⟩
def tW (X : Cx) (e : Expr) : TT := fun σ H Q => ∀ (whole : Sem Value) (pins : List (Addr × Obj)) (s : Shared), Inv X pins σ H s → wpAny (model X.prog X.w) X.A (isTrue e X.env whole) (TP X pins σ Q) X.xe s
theorem pw_self : PW X e (tW X e) := ⟨fun wh pins s σ H Q I h => h wh pins s I⟩
/-- a chain of and, or -/
structure EvW (X : Cx) (B : Bg) (e : Expr) (Γ : List Sl) (k : Bool → Prop) : Prop where
  run : ∀ (σ : L2.St) (G H : Hp) (Q : Bool → Hp → Prop), Ok B G H → EnvOk X.K B G H σ Γ → (∀ b G' H', Grow B G H G' H' → k b → Q b H') → tW X e σ H Q
theorem et_of_w {f : Bool → Prop} (h : EvW X B e Γ f) : EvT X B e Γ f := ⟨fun σ G H Q o en cont pins s I => h.run σ G H Q o en cont _ pins s I⟩
theorem ew_and1 {f : Bool → Prop} (h : EvT X B a Γ f) : EvW X B (.BoolOp .And [a] pos) Γ f := ⟨fun σ G H Q o en cont wh pins s I => (pw_and1 pt_self).run wh pins s σ H Q I (h.run σ G H Q o en cont)⟩
theorem ew_or1 {f : Bool → Prop} (h : EvT X B a Γ f) : EvW X B (.BoolOp .Or [a] pos) Γ f := ⟨fun σ G H Q o en cont wh pins s I => (pw_or1 pt_self).run wh pins s σ H Q I (h.run σ G H Q o en cont)⟩
theorem ew_and {f : Bool → Prop} (h : EvT X B a Γ fun c => if c = true then EvW X B (.BoolOp .And (b :: es) pos) Γ f else f false) : EvW X B (.BoolOp .And (a :: b :: es) pos) Γ f :=
  ⟨fun σ G H Q o en cont wh pins s I => (pw_and pt_self pw_self).run wh pins s σ H Q I (h.run σ G H _ o en fun c G1 H1 g1 k1 => by
    cases c with
    | true =>
      rw [if_pos rfl] at k1 ⊢
      exact k1.run σ G1 H1 Q g1.ok (en.grow g1) fun b G2 H2 g2 k2 => cont b G2 H2 (g1.trans g2) k2
    | false =>
      rw [if_neg Bool.false_ne_true] at k1 ⊢
      exact cont _ G1 H1 g1 k1)⟩
theorem ew_or {f : Bool → Prop} (h : EvT X B a Γ fun c => if c = true then f true else EvW X B (.BoolOp .Or (b :: es) pos) Γ f) : EvW X B (.BoolOp .Or (a :: b :: es) pos) Γ f :=
  ⟨fun σ G H Q o en cont wh pins s I => (pw_or pt_self pw_self).run wh pins s σ H Q I (h.run σ G H _ o en fun c G1 H1 g1 k1 => by
    cases c with
    | false =>
      rw [if_neg Bool.false_ne_true] at k1 ⊢
      exact k1.run σ G1 H1 Q g1.ok (en.grow g1) fun b G2 H2 g2 k2 => cont b G2 H2 (g1.trans g2) k2
    | true =>
      rw [if_pos rfl] at k1 ⊢
      exact cont _ G1 H1 g1 k1)⟩
/-! .. as values -/
theorem ee_one {op} (h : EvE X B a Γ k) : EvE X B (.BoolOp op [a] pos) Γ k := ⟨fun σ G H Q o en cont => tE_of (pe_one pe_self) (h.run σ G H Q o en cont)⟩
theorem ee_and (h : EvE X B a Γ (Sl.bl fun c => if c = true then EvE X B (.BoolOp .And (b :: es) pos) Γ k else k (.d (.bool false)))) : EvE X B (.BoolOp .And (a :: b :: es) pos) Γ k :=
  ⟨fun σ G H Q o en cont => tE_of (pe_and pe_self pe_self) (h.run σ G H _ o en fun v G1 H1 r1 g1 re1 k1 => by
    obtain ⟨c, ei, q1⟩ := bl_inv re1 k1
    refine ⟨c, ei, ?_⟩
    cases c with
    | true =>
      rw [if_pos rfl] at q1 ⊢
      exact q1.run σ G1 H1 Q g1.ok (en.grow g1) fun v G2 H2 r g2 re k2 => cont v G2 H2 r (g1.trans g2) ⟨re.1, fun z p e => g1.free (re.2 z p e)⟩ k2
    | false =>
      rw [if_neg Bool.false_ne_true] at q1 ⊢
      exact cont _ G1 H1 _ g1 (Res.dat (.bl _)) q1)⟩
theorem ee_or (h : EvE X B a Γ (Sl.bl fun c => if c = true then k (.d (.bool true)) else EvE X B (.BoolOp .Or (b :: es) pos) Γ k)) : EvE X B (.BoolOp .Or (a :: b :: es) pos) Γ k :=
  ⟨fun σ G H Q o en cont => tE_of (pe_or pe_self pe_self) (h.run σ G H _ o en fun v G1 H1 r1 g1 re1 k1 => by
    obtain ⟨c, ei, q1⟩ := bl_inv re1 k1
    refine ⟨c, ei, ?_⟩
    cases c with
    | false =>
      rw [if_neg Bool.false_ne_true] at q1 ⊢
      exact q1.run σ G1 H1 Q g1.ok (en.grow g1) fun v G2 H2 r g2 re k2 => cont v G2 H2 r (g1.trans g2) ⟨re.1, fun z p e => g1.free (re.2 z p e)⟩ k2
    | true =>
      rw [if_pos rfl] at q1 ⊢
      exact cont _ G1 H1 _ g1 (Res.dat (.bl _)) q1)⟩
theorem ee_not (h : EvE X B a Γ (Sl.bl fun c => k (.d (.bool (!c))))) : EvE X B (.UnaryOp .Not a pos) Γ k :=
  ⟨fun σ G H Q o en cont => tE_of (pe_not pe_self) (h.run σ G H _ o en fun v G1 H1 r1 g1 re1 k1 => by
    obtain ⟨c, ei, q1⟩ := bl_inv re1 k1
    exact ⟨c, ei, cont _ G1 H1 _ g1 (Res.dat (.bl _)) q1⟩)⟩
theorem ee_if (h : EvT X B c Γ fun t => if t = true then EvE X B a Γ k else EvE X B b Γ k) : EvE X B (.IfExp c a b pos) Γ k :=
  ⟨fun σ G H Q o en cont => tE_of (pe_ifExp pt_self pe_self pe_self) (h.run σ G H _ o en fun t G1 H1 g1 k1 => by
    cases t with
    | true =>
      rw [if_pos rfl] at k1 ⊢
      exact k1.run σ G1 H1 Q g1.ok (en.grow g1) fun v G2 H2 r g2 re k2 => cont v G2 H2 r (g1.trans g2) ⟨re.1, fun z p e => g1.free (re.2 z p e)⟩ k2
    | false =>
      rw [if_neg Bool.false_ne_true] at k1 ⊢
      exact k1.run σ G1 H1 Q g1.ok (en.grow g1) fun v G2 H2 r g2 re k2 => cont v G2 H2 r (g1.trans g2) ⟨re.1, fun z p e => g1.free (re.2 z p e)⟩ k2)⟩
/-- a <= b <= c of ints -/
theorem ee_chain {op op' : CmpOp} {g g' : Int → Int → Bool} (ho : OpR X (compareOp op) (rI0 fun i j => .bl (g i j))) (ho' : OpR X (compareOp op') (rI0 fun i j => .bl (g' i j)))
    (h : EvE X B a Γ (Sl.int fun i => EvE X B b Γ (Sl.int fun j => if g i j = true then EvE X B c Γ (Sl.int fun l => k (.d (.bool (g' j l)))) else k (.d (.bool false))))) (hm : lastMarks [op, op'] [b, c] = false := by with_unfolding_all rfl) :
    EvE X B (.Compare a [op, op'] [b, c] pos) Γ k :=
  ⟨fun σ G H Q o en cont => tE_of (pe_chain ho ho' pe_self pe_self pe_self hm) (h.run σ G H _ o en fun v G1 H1 r1 g1 re1 k1 => by
    obtain ⟨i, ei, q1⟩ := int_inv re1 k1
    refine q1.run σ G1 H1 _ g1.ok (en.grow g1) fun w G2 H2 r2 g2 re2 k2 => ?_
    obtain ⟨j, ej, q2⟩ := int_inv re2 k2
    refine ⟨i, j, ei, ej, _, rfl, ?_⟩
    cases hg : g i j with
    | true =>
      rw [hg, if_pos rfl] at q2
      rw [if_pos rfl]
      refine q2.run σ G2 H2 _ g2.ok ((en.grow g1).grow g2) fun u G3 H3 r3 g3 re3 k3 => ?_
      obtain ⟨l, el, q3⟩ := int_inv re3 k3
      exact ⟨j, l, ej, el, cont _ G3 H3 _ ((g1.trans g2).trans g3) (Res.dat (.bl _)) q3⟩
    | false =>
      rw [hg, if_neg Bool.false_ne_true] at q2
      rw [if_neg Bool.false_ne_true]
      exact cont _ G2 H2 _ (g1.trans g2) (Res.dat (.bl _)) q2)⟩
theorem ee_lele (h : EvE X B a Γ (Sl.int fun i => EvE X B b Γ (Sl.int fun j => if decide (i ≤ j) = true then EvE X B c Γ (Sl.int fun l => k (.d (.bool (decide (j ≤ l))))) else k (.d (.bool false))))) (hm : lastMarks [.LtE, .LtE] [b, c] = false := by with_unfolding_all rfl) :
    EvE X B (.Compare a [.LtE, .LtE] [b, c] pos) Γ k := ee_chain (g := fun i j => decide (i ≤ j)) (g' := fun i j => decide (i ≤ j)) op_le op_le h hm

/-! ### arguments, displays -/
theorem ea_nil {f : List Sl → Prop} (q : f []) : EvA X B [] Γ f := ⟨fun σ G H Q o en cont => tA_of pa_nil (cont [] G H [] (Grow.refl o) .nil q)⟩
theorem Res.toArg {K : PySem.W.Frag} {G H G' H' : Hp} {v : V} {r : Sl} {f : Sl → Prop} (g : Grow B G H G' H') (h : Res K B H G' H' v r) (q : Sl.arg f r) : ∃ G2 s, Grow B G H G2 H' ∧ s.own = false ∧ SlOk K B G2 H' v s ∧ f s := by
  cases r with
  | d d => exact ⟨G', _, g, rfl, h.1, q⟩
  | bg => exact ⟨G', _, g, rfl, h.1, q⟩
  | rv u => exact ⟨G', _, g, rfl, h.1, q⟩
  | scr ns => exact ⟨G', _, g, rfl, h.1, q⟩
  | exn a dx f d => exact ⟨G', _, g, rfl, h.1, q⟩
  | pp φ => exact ⟨G', _, g, rfl, h.1, q⟩
  | ol ds =>
    obtain ⟨G2, d, g2, hd, rfl⟩ := h.toD (f := fun z => z = .list ds) g (show (PyData.list ds = PyData.list ds) from rfl)
    exact ⟨G2, .d (.list ds), g2, rfl, hd, q⟩
  | _ => exact q.elim
theorem ArgOk.grow {K : PySem.W.Frag} {G H G' H' : Hp} {vs : List V} {rs : List Sl} (g : Grow B G H G' H') (h : ArgOk K B G H vs rs) : ArgOk K B G' H' vs rs := Paired.mapP h fun _ _ q => ⟨q.1, q.2.grow g⟩
theorem ea_cons {f : List Sl → Prop} (h : EvE X B e Γ (Sl.arg fun r => EvA X B es Γ fun rs => f (r :: rs))) (hs : starEach (e :: es) X.env = (false, eval e X.env) :: starEach es X.env := by rfl) : EvA X B (e :: es) Γ f :=
  ⟨fun σ G H Q o en cont => tA_of (pa_cons pe_self pa_self hs) (h.run σ G H _ o en fun v G1 H1 r1 g1 re1 k1 => by
    obtain ⟨G2, r, g2, ro, rk, q1⟩ := re1.toArg g1 k1
    refine q1.run σ G2 H1 _ g2.ok (en.grow g2) fun vs G3 H3 rs g3 ra k2 => ?_
    exact cont _ G3 H3 _ (g2.trans g3) (.cons ⟨ro, rk.grow g3⟩ ra) k2)⟩
/-- as data all of them -/
structure EvDs (X : Cx) (B : Bg) (es : List Expr) (Γ : List Sl) (k : List PyData → Prop) : Prop where
  run : ∀ (σ : L2.St) (G H : Hp) (Q : List V → Hp → Prop), Ok B G H → EnvOk X.K B G H σ Γ → (∀ vs G' H' ds, Grow B G H G' H' → DpAll X.K G' vs ds → ds.length = es.length → k ds → Q vs H') → tA X es σ H Q
theorem ed_nil {f : List PyData → Prop} (q : f []) : EvDs X B [] Γ f := ⟨fun σ G H Q o en cont => tA_of pa_nil (cont [] G H [] (Grow.refl o) .nil rfl q)⟩
theorem ed_cons {f : List PyData → Prop} (h : EvE X B e Γ (Sl.dat fun d => EvDs X B es Γ fun ds => f (d :: ds))) (hs : starEach (e :: es) X.env = (false, eval e X.env) :: starEach es X.env := by rfl) : EvDs X B (e :: es) Γ f :=
  ⟨fun σ G H Q o en cont => tA_of (pa_cons pe_self pa_self hs) ((EvD.of h).run σ G H _ o en fun v G1 H1 d g1 d1 k1 => k1.run σ G1 H1 _ g1.ok (en.grow g1) fun vs G3 H3 ds g3 da hl k2 =>
    cont _ G3 H3 _ (g1.trans g3) (.cons (Dp.ext g3.g _ _ d1) da) (congrArg Nat.succ hl) k2)⟩
theorem ee_tup {x1} (h : EvDs X B es Γ fun ds => k (.d (.tuple ds))) (hl : Nat.ble es.length 1000 = true := by rfl) : EvE X B (.Tuple es x1 pos) Γ k :=
  ⟨fun σ G H Q o en cont => tE_of (pe_tup pa_self) (h.run σ G H _ o en fun vs G1 H1 ds g1 da hd k1 => ⟨by
    rw [DpAll.length da, hd]
    exact Nat.le_trans (Nat.le_of_ble_eq_true hl) (by decide), fun p hp => by
    have gn := Grow.new g1.ok hp (.tup vs)
    exact cont _ _ _ _ (g1.trans gn) (Res.dat (.tup (SqT.of upd_same) (DpAll.ext gn.g _ _ da))) k1⟩)⟩
theorem ee_lst (h : EvDs X B es Γ fun ds => k (.ol ds)) (hl : Nat.ble es.length 1000 = true := by rfl) : EvE X B (.List es pos) Γ k :=
  ⟨fun σ G H Q o en cont => tE_of (pe_lst pa_self) (h.run σ G H _ o en fun vs G1 H1 ds g1 da hd k1 => ⟨by
    rw [DpAll.length da, hd]
    exact Nat.le_trans (Nat.le_of_ble_eq_true hl) (by decide), fun p hp => by
    have gn := Grow.newOwn g1.ok hp (.lst vs)
    exact cont _ _ _ (.ol ds) (g1.trans gn) ⟨⟨p, vs, rfl, g1.ok.notfree hp, g1.ok.ex.free hp, upd_same, da⟩, fun _ q e => by cases e; exact g1.free hp⟩ k1⟩)⟩
end
end Ab
namespace Ab
open PySem PySem.Spec L2

/-! ### statements -/
def tS (X : Cx) (st : Stmt) : TS := fun D σ H => ∀ (pins : List (Addr × Obj)) (s : Shared), Inv X pins σ H s → wpAny (model X.prog X.w) X.A (exec st X.env) (SP X pins D) X.xe s
def tSs (X : Cx) (st : List Stmt) : TS := fun D σ H => ∀ (pins : List (Addr × Obj)) (s : Shared), Inv X pins σ H s → wpAny (model X.prog X.w) X.A (execs st X.env) (SP X pins D) X.xe s
theorem ps_self {X : Cx} {e : Stmt} : PS X e (tS X e) := ⟨fun pins s σ H Q I h => h pins s I⟩
theorem pss_self {X : Cx} {e : List Stmt} : PSs X e (tSs X e) := ⟨fun pins s σ H Q I h => h pins s I⟩
theorem tS_of {X : Cx} {e : Stmt} {t : TS} {σ : L2.St} {H : Hp} {D : Ends} (h : PS X e t) (q : t D σ H) : tS X e D σ H := fun pins s I => h.run pins s σ H D I q
theorem tSs_of {X : Cx} {e : List Stmt} {t : TS} {σ : L2.St} {H : Hp} {D : Ends} (h : PSs X e t) (q : t D σ H) : tSs X e D σ H := fun pins s I => h.run pins s σ H D I q

structure StOk (K : PySem.W.Frag) (B : Bg) (G0 H0 : Hp) (σ : L2.St) (G H : Hp) (Γ : List Sl) : Prop where
  gr : Grow B G0 H0 G H
  en : EnvOk K B G H σ Γ
  fr : ∀ (i : Nat) s p, Γ[i]? = some s → s.own = true → σ[i]? = some (some (.ref p)) → H0 p = none
structure Dn where
  nx : List Sl → Prop
  rt : Sl → Prop
  bk : List Sl → Prop := fun _ => False
  ct : List Sl → Prop := fun _ => False
  ex : Hp → Hp → Prop := fun _ _ => True
structure DnOk (K : PySem.W.Frag) (B : Bg) (G0 H0 : Hp) (D : Dn) (DH : Ends) : Prop where
  nx : ∀ Γ σ G H, StOk K B G0 H0 σ G H Γ → D.nx Γ → DH.nx σ H
  rt : ∀ v G H r, Grow B G0 H0 G H → Res K B H0 G H v r → D.rt r → DH.rt v H
  bk : ∀ Γ σ G H, StOk K B G0 H0 σ G H Γ → D.bk Γ → DH.bk σ H
  ct : ∀ Γ σ G H, StOk K B G0 H0 σ G H Γ → D.ct Γ → DH.ct σ H
  ex : ∀ G H, Grow B G0 H0 G H → D.ex G H
structure RunS (X : Cx) (B : Bg) (st : Stmt) (Γ : List Sl) (D : Dn) : Prop where
  run : ∀ G0 H0 σ G H DH, StOk X.K B G0 H0 σ G H Γ → DnOk X.K B G0 H0 D DH → tS X st DH σ H
structure RunSs (X : Cx) (B : Bg) (st : List Stmt) (Γ : List Sl) (D : Dn) : Prop where
  run : ∀ G0 H0 σ G H DH, StOk X.K B G0 H0 σ G H Γ → DnOk X.K B G0 H0 D DH → tSs X st DH σ H

section
variable {X : Cx} {B : Bg} {Γ : List Sl} {D : Dn} {st : Stmt} {rest a b : List Stmt} {e c : Expr} {pos : Pos} {K : PySem.W.Frag} {G0 H0 G H G' H' : Hp} {σ : L2.St}
theorem StOk.grow (h : StOk K B G0 H0 σ G H Γ) (g : Grow B G H G' H') : StOk K B G0 H0 σ G' H' Γ := ⟨h.gr.trans g, h.en.grow g, h.fr⟩
theorem StOk.asg (h : StOk K B G0 H0 σ G H Γ) (g : Grow B G H G' H') {v : V} {r : Sl} (q : Res K B H G' H' v r) (i : Nat) : StOk K B G0 H0 (σ.set i (some v)) G' H' (Γ.set i r) := by
  refine ⟨h.gr.trans g, h.en.asg g q i, fun j s p e o ev => ?_⟩
  by_cases hj : i = j
  · subst hj
    have hi : i < Γ.length := by
      by_cases hi : i < Γ.length
      · exact hi
      · rw [List.getElem?_eq_none (by simpa using hi)] at e; cases e
    rw [List.getElem?_set_self hi] at e
    rw [List.getElem?_set_self (by rw [h.en.len]; exact hi)] at ev
    cases e
    cases ev
    exact h.gr.free (q.2 o p rfl)
  · rw [List.getElem?_set_ne hj] at e ev
    exact h.fr j s p e o ev
theorem Res.old (h : StOk K B G0 H0 σ G H Γ) {v : V} {r : Sl} (q : Res K B H G' H' v r) : Res K B H0 G' H' v r := ⟨q.1, fun o p e => h.gr.free (q.2 o p e)⟩

theorem rs_nil (q : D.nx Γ) : RunSs X B [] Γ D := ⟨fun G0 H0 σ G H DH s d => tSs_of pss_nil (d.nx _ _ _ _ s q)⟩
theorem rs_cons (h : RunS X B st Γ { D with nx := fun Γ' => RunSs X B rest Γ' D }) : RunSs X B (st :: rest) Γ D := ⟨fun G0 H0 σ G H DH s d => tSs_of (pss_cons ps_self pss_self)
  (h.run G0 H0 σ G H { DH with nx := tSs X rest DH } s ⟨fun Γ σ G H s2 q => q.run G0 H0 σ G H DH s2 d, d.rt, d.bk, d.ct, d.ex⟩)⟩
theorem rs_one (h : RunS X B st Γ D) : RunSs X B [st] Γ D := ⟨fun G0 H0 σ G H DH s d => tSs_of (pss_one ps_self) (h.run G0 H0 σ G H DH s d)⟩
theorem rs_mono {D' : Dn} (h : RunS X B st Γ D') (nx : ∀ Γ, D'.nx Γ → D.nx Γ) (rt : ∀ r, D'.rt r → D.rt r) (bk : ∀ Γ, D'.bk Γ → D.bk Γ) (ct : ∀ Γ, D'.ct Γ → D.ct Γ) (ex : ∀ G H, D.ex G H → D'.ex G H := by exact fun _ _ h => h) : RunS X B st Γ D :=
  ⟨fun G0 H0 σ G H DH s d => h.run G0 H0 σ G H DH s ⟨fun Γ σ G H s q => d.nx Γ σ G H s (nx Γ q), fun v G H r g re q => d.rt v G H r g re (rt r q), fun Γ σ G H s q => d.bk Γ σ G H s (bk Γ q), fun Γ σ G H s q => d.ct Γ σ G H s (ct Γ q), fun G H g => ex _ _ (d.ex G H g)⟩⟩
theorem rss_mono {D' : Dn} (h : RunSs X B rest Γ D') (nx : ∀ Γ, D'.nx Γ → D.nx Γ) (rt : ∀ r, D'.rt r → D.rt r) (bk : ∀ Γ, D'.bk Γ → D.bk Γ) (ct : ∀ Γ, D'.ct Γ → D.ct Γ) (ex : ∀ G H, D.ex G H → D'.ex G H := by exact fun _ _ h => h) : RunSs X B rest Γ D :=
  ⟨fun G0 H0 σ G H DH s d => h.run G0 H0 σ G H DH s ⟨fun Γ σ G H s q => d.nx Γ σ G H s (nx Γ q), fun v G H r g re q => d.rt v G H r g re (rt r q), fun Γ σ G H s q => d.bk Γ σ G H s (bk Γ q), fun Γ σ G H s q => d.ct Γ σ G H s (ct Γ q), fun G H g => ex _ _ (d.ex G H g)⟩⟩
theorem rs_pass (q : D.nx Γ) : RunS X B (.Pass pos) Γ D := ⟨fun G0 H0 σ G H DH s d => tS_of ps_pass (d.nx _ _ _ _ s q)⟩
theorem rs_break (q : D.bk Γ) : RunS X B (.Break pos) Γ D := ⟨fun G0 H0 σ G H DH s d => tS_of ps_break (d.bk _ _ _ _ s q)⟩
theorem rs_continue (q : D.ct Γ) : RunS X B (.Continue pos) Γ D := ⟨fun G0 H0 σ G H DH s d => tS_of ps_continue (d.ct _ _ _ _ s q)⟩
theorem rs_ret (h : EvE X B e Γ D.rt) : RunS X B (.Return (some e) pos) Γ D := ⟨fun G0 H0 σ G H DH s d => tS_of (ps_ret pe_self) (h.run σ G H _ s.gr.ok s.en fun v G' H' r g re kr => d.rt v G' H' r (s.gr.trans g) (Res.old s re) kr)⟩
theorem rs_retN (q : D.rt (.d .none)) : RunS X B (.Return none pos) Γ D := ⟨fun G0 H0 σ G H DH s d => tS_of ps_retN (d.rt .non G H _ s.gr (Res.dat .non) q)⟩
/-- the owned list in slot i is handed back -/
theorem rs_retOwn (i : Nat) {x : Str} {p1 : Pos} {s : Sl} (hg : Γ[i]? = some s) (q : D.rt s) (ho : s.own = true := by rfl) (hN : X.N[i]? = some x := by rfl) (hv : Vis X.env.scope x := by first | exact Or.inl rfl | exact Or.inr (Or.inl rfl) | exact Or.inr (Or.inr rfl))
    (hd : (x == ("__debug__" : Str)) = false := by decide) (hcd : (x == ("__classdict__" : Str)) = false := by decide) : RunS X B (.Return (some (.Name x p1)) pos) Γ D := ⟨fun G0 H0 σ G H DH st d => tS_of (ps_ret (pe_var hN hv hd hcd)) (by
  obtain ⟨v, e1, h1⟩ := st.en.ok i s hg (by rintro rfl; cases ho)
  exact ⟨v, e1, d.rt v G H s st.gr ⟨h1, fun o p e => by subst e; exact st.fr i s p hg o e1⟩ q⟩)⟩
theorem rs_expr (h : EvE X B e Γ fun _ => D.nx Γ) (hs : swapsWith e none pos.line X.env = pure false := by rfl) : RunS X B (.Expr e pos) Γ D :=
  ⟨fun G0 H0 σ G H DH s d => tS_of (ps_expr pe_self hs) (h.run σ G H _ s.gr.ok s.en fun v G' H' r g re kr => d.nx Γ σ G' H' (s.grow g) kr)⟩
theorem rs_if (h : EvT X B c Γ fun t => if t = true then RunSs X B a Γ D else RunSs X B b Γ D) : RunS X B (.If c a b pos) Γ D :=
  ⟨fun G0 H0 σ G H DH s d => tS_of (ps_if pt_self pss_self pss_self) (h.run σ G H _ s.gr.ok s.en fun t G' H' g kt => by
    cases t with
    | true =>
      rw [if_pos rfl] at kt ⊢
      exact kt.run G0 H0 σ G' H' DH (s.grow g) d
    | false =>
      rw [if_neg Bool.false_ne_true] at kt ⊢
      exact kt.run G0 H0 σ G' H' DH (s.grow g) d)⟩
/-- x = e -/
theorem rs_asg (i : Nat) {x : Str} {p1 : Pos} (hN : X.N.Nodup) (h : EvE X B e Γ fun r => D.nx (Γ.set i r)) (hi : X.N[i]? = some x := by rfl) (hx : Loc X.env.scope x := by first | exact Or.inl rfl | exact Or.inr rfl)
    (hs : swapsWith e (some (.Name x p1)) pos.line X.env = pure false := by rfl) (hf : X.fn x = true ∨ X.env.scope.names.lookup x = some .local := by first | exact .inl rfl | exact .inr rfl) : RunS X B (.Assign [.Name x p1] e pos) Γ D :=
  ⟨fun G0 H0 σ G H DH s d => tS_of (ps_set hN hi hx pe_self hs hf) (h.run σ G H _ s.gr.ok s.en fun v G' H' r g re kr => d.nx _ _ G' H' (s.asg g re i) kr)⟩
theorem Sl.argK {k : Sl → Prop} (h : EvE X B e Γ (Sl.arg k)) : EvE X B e Γ k := ⟨fun σ G H Q o en cont => h.run σ G H Q o en fun v G1 H1 r g re kr => by
  obtain ⟨G2, s, g2, so, sk, q⟩ := re.toArg g kr
  exact cont v G2 H1 s g2 ⟨sk, fun z => by rw [so] at z; cases z⟩ q⟩
/-- x = e, what is made becomes data -/
theorem rs_asgF (i : Nat) {x : Str} {p1 : Pos} (hN : X.N.Nodup) (h : EvE X B e Γ (Sl.arg fun r => D.nx (Γ.set i r))) (hi : X.N[i]? = some x := by rfl) (hx : Loc X.env.scope x := by first | exact Or.inl rfl | exact Or.inr rfl)
    (hs : swapsWith e (some (.Name x p1)) pos.line X.env = pure false := by rfl) (hf : X.fn x = true ∨ X.env.scope.names.lookup x = some .local := by first | exact .inl rfl | exact .inr rfl) : RunS X B (.Assign [.Name x p1] e pos) Γ D :=
  rs_asg i hN (Sl.argK h) hi hx hs hf
/-- freeze slot i -/
theorem StOk.frz (s : StOk K B G0 H0 σ G H Γ) {i : Nat} {ds : List PyData} (e : Γ[i]? = some (.ol ds)) : ∃ G', StOk K B G0 H0 σ G' H (Γ.set i (.d (.list ds))) := by
  obtain ⟨G', eg, ok, nf, en⟩ := s.en.frz s.gr.ok e
  have hi : i < Γ.length := (List.getElem?_eq_some_iff.mp e).1
  refine ⟨G', ⟨s.gr.g.trans eg, s.gr.h, fun x o h0 g0 => ?_, ok⟩, en, fun j t p e2 o2 ev => ?_⟩
  · rcases nf x (s.gr.n x o h0 g0) with h | h
    · exact h
    · have := s.fr i _ x e rfl h
      rw [h0] at this; cases this
  · by_cases hj : i = j
    · subst hj
      rw [List.getElem?_set_self hi] at e2
      cases e2; cases o2
    · rw [List.getElem?_set_ne hj] at e2
      exact s.fr j t p e2 o2 ev
theorem rs_freeze (i : Nat) {ds : List PyData} (h : RunSs X B rest (Γ.set i (.d (.list ds))) D) (e : Γ[i]? = some (.ol ds) := by rfl) : RunSs X B rest Γ D :=
  ⟨fun G0 H0 σ G H DH s d => let ⟨_, s2⟩ := s.frz e; h.run G0 H0 σ _ H DH s2 d⟩
theorem StOk.drop (s : StOk K B G0 H0 σ G H Γ) (i : Nat) : StOk K B G0 H0 σ G H (Γ.set i .x) := by
  refine ⟨s.gr, s.en.drop i, fun j t p e2 o2 ev => ?_⟩
  by_cases hj : i = j
  · subst hj
    by_cases hi : i < Γ.length
    · rw [List.getElem?_set_self hi] at e2; cases e2; cases o2
    · rw [List.getElem?_eq_none (by simpa using hi)] at e2; cases e2
  · rw [List.getElem?_set_ne hj] at e2
    exact s.fr j t p e2 o2 ev
theorem rs_drop (i : Nat) (h : RunSs X B rest (Γ.set i .x) D) : RunSs X B rest Γ D := ⟨fun G0 H0 σ G H DH s d => h.run G0 H0 σ _ H DH (s.drop i) d⟩

/-! targets -/
def tG (X : Cx) (tg : Expr) : TG := fun v σ H Q => ∀ (pins : List (Addr × Obj)) (s : Shared) (u : Value), Inv X pins σ H s → RelV v u → wpAny (model X.prog X.w) X.A (assign tg X.env u) (fun _ s' => ∃ σ' H', Inv X pins σ' H' s' ∧ Q σ' H') X.xe s
theorem pg_self {tg : Expr} : PG X tg (tG X tg) := ⟨fun pins s σ H v u Q I r h => h pins s u I r⟩
/-- the slots is are stored -/
structure Sto (is : List Nat) (σ σ' : L2.St) : Prop where
  len : σ'.length = σ.length
  out : ∀ j, j ∉ is → σ'[j]? = σ[j]?
theorem Sto.refl (σ : L2.St) : Sto [] σ σ := ⟨rfl, fun _ _ => rfl⟩
def OwnLe (σ : L2.St) (Γ : List Sl) (σ' : L2.St) (Γ' : List Sl) : Prop := ∀ (i : Nat) s p, Γ'[i]? = some s → s.own = true → σ'[i]? = some (some (.ref p)) → Γ[i]? = some s ∧ σ[i]? = some (some (.ref p))
structure AsgT (X : Cx) (B : Bg) (tg : Expr) (is : List Nat) (d : PyData) (Γ : List Sl) (k : List Sl → Prop) : Prop where
  run : ∀ σ G H v (Q : L2.St → Hp → Prop), Ok B G H → EnvOk X.K B G H σ Γ → Dp X.K G v d → (∀ Γ' σ', EnvOk X.K B G H σ' Γ' → OwnLe σ Γ σ' Γ' → Sto is σ σ' → k Γ' → Q σ' H) → tG X tg v σ H Q
theorem tG_of {tg : Expr} {t : TG} {v : V} {Q : L2.St → Hp → Prop} (h : PG X tg t) (q : t v σ H Q) : tG X tg v σ H Q := fun pins s u I r => h.run pins s σ H v u Q I r q
theorem EnvOk.dat (o : Ok B G H) (h : EnvOk K B G H σ Γ) {v : V} {d : PyData} (hd : Dp K G v d) (i : Nat) : EnvOk K B G H (σ.set i (some v)) (Γ.set i (.d d)) := h.asg (Grow.refl o) (Res.dat hd) i
theorem ownLe_dat {v : V} {d : PyData} (i : Nat) (hl : σ.length = Γ.length) : OwnLe σ Γ (σ.set i (some v)) (Γ.set i (.d d)) := fun j s p e o ev => by
  by_cases hj : i = j
  · subst hj
    by_cases hi : i < Γ.length
    · rw [List.getElem?_set_self hi] at e; cases e; cases o
    · rw [List.getElem?_eq_none (by simpa using hi)] at e; cases e
  · rw [List.getElem?_set_ne hj] at e ev
    exact ⟨e, ev⟩
theorem at_name (i : Nat) {x : Str} {p1 : Pos} {d : PyData} {k : List Sl → Prop} (hN : X.N.Nodup) (q : k (Γ.set i (.d d))) (hi : X.N[i]? = some x := by rfl) (hx : Loc X.env.scope x := by first | exact Or.inl rfl | exact Or.inr rfl)
    (hf : X.fn x = true ∨ X.env.scope.names.lookup x = some .local := by first | exact .inl rfl | exact .inr rfl) : AsgT X B (.Name x p1) [i] d Γ k :=
  ⟨fun σ G H v Q o en hd cont => tG_of (pg_name hN hi hx hf) (cont _ _ (en.dat o hd i) (ownLe_dat i en.len) ⟨by simp, fun j hj => List.getElem?_set_ne (fun z => hj (by simp [z]))⟩ q)⟩
/-- several targets -/
def tGs (X : Cx) (tgs : List Expr) : TGs := fun vs σ H Q => ∀ (pins : List (Addr × Obj)) (s : Shared) (us : List Value), Inv X pins σ H s → Vals vs us → wpAny (model X.prog X.w) X.A (assignInOrder ((assignEach tgs X.env).map (·.2)) us) (fun _ s' => ∃ σ' H', Inv X pins σ' H' s' ∧ Q σ' H') X.xe s
theorem pgs_self {tgs : List Expr} : PGs X tgs (tGs X tgs) := ⟨fun pins s σ H v u Q I r h => h pins s u I r⟩
structure AsgTs (X : Cx) (B : Bg) (tgs : List Expr) (is : List Nat) (ds : List PyData) (Γ : List Sl) (k : List Sl → Prop) : Prop where
  run : ∀ σ G H vs (Q : L2.St → Hp → Prop), Ok B G H → EnvOk X.K B G H σ Γ → DpAll X.K G vs ds → (∀ Γ' σ', EnvOk X.K B G H σ' Γ' → OwnLe σ Γ σ' Γ' → Sto is σ σ' → k Γ' → Q σ' H) → tGs X tgs vs σ H Q
theorem ats_nil {k : List Sl → Prop} (q : k Γ) : AsgTs X B [] [] [] Γ k := ⟨fun σ G H vs Q o en hd cont pins s us I r => pgs_nil.run pins s σ H vs us Q I r ⟨by cases hd; rfl, cont Γ σ en (fun i s p a _ b => ⟨a, b⟩) (Sto.refl σ) q⟩⟩
theorem ats_cons {tg : Expr} {tgs : List Expr} {is js : List Nat} {d : PyData} {ds : List PyData} {k : List Sl → Prop} (h : AsgT X B tg is d Γ fun Γ' => AsgTs X B tgs js ds Γ' k)
    (hs : (assignEach (tg :: tgs) X.env).map (·.2) = assign tg X.env :: (assignEach tgs X.env).map (·.2) := by rfl) : AsgTs X B (tg :: tgs) (is ++ js) (d :: ds) Γ k :=
  ⟨fun σ G H vs Q o en hd cont pins s us I r => by
    cases hd with
    | cons h1 h2 =>
      refine (pgs_cons pg_self pgs_self hs).run pins s σ H _ us Q I r ⟨_, _, rfl, ?_⟩
      refine h.run σ G H _ _ o en h1 fun Γ1 σ1 en1 ow1 st1 k1 => ?_
      refine k1.run σ1 G H _ _ o en1 h2 fun Γ2 σ2 en2 ow2 st2 k2 => ?_
      refine cont Γ2 σ2 en2 (fun i s p a b c => ?_) ⟨st2.len.trans st1.len, fun j hj => ?_⟩ k2
      · obtain ⟨a1, c1⟩ := ow2 i s p a b c
        exact ow1 i s p a1 b c1
      · have h1 : j ∉ is := fun z => hj (List.mem_append_left _ z)
        have h2 : j ∉ js := fun z => hj (List.mem_append_right _ z)
        exact (st2.out j h2).trans (st1.out j h1)⟩
theorem at_tup {tgs : List Expr} {is : List Nat} {kk : Nat} {p1 : Pos} {ds : List PyData} {k : List Sl → Prop} (hc : X.calm = true) (h : AsgTs X B tgs is ds Γ k) (hn : (assignEach tgs X.env).length = ds.length := by rfl) (hst : (assignEach tgs X.env).findIdx? (·.1) = none := by rfl) : AsgT X B (.Tuple tgs kk p1) is (.tuple ds) Γ k :=
  ⟨fun σ G H v Q o en hd cont => by
    obtain ⟨p, xs, e, hs, ha⟩ := Dp.tup_inv hd
    exact tG_of (pg_tup hc pgs_self hn hst) ⟨p, xs, e, SqT.ext o.ex hs, DpAll.length ha, h.run σ G H xs Q o en ha cont⟩⟩
theorem StOk.own (s : StOk K B G0 H0 σ G H Γ) {σ' : L2.St} {Γ' : List Sl} (en : EnvOk K B G H σ' Γ') (ow : OwnLe σ Γ σ' Γ') : StOk K B G0 H0 σ' G H Γ' :=
  ⟨s.gr, en, fun i t p e o ev => let ⟨a, b⟩ := ow i t p e o ev; s.fr i t p a o b⟩
/-- a, b = e -/
theorem rs_tup {tgs : List Expr} {is : List Nat} {kk : Nat} {p1 : Pos} (hc : X.calm = true) (h : EvE X B e Γ (Sl.dat fun d => AsgT X B (.Tuple tgs kk p1) is d Γ D.nx)) (hs : swapsWithSole [.Tuple tgs kk p1] e pos.line X.env = pure false := by rfl) (hw : swappedStores [.Tuple tgs kk p1] e X.env = pure none := by rfl)
    (h1 : (assignEach [.Tuple tgs kk p1] X.env).map (·.2) = [assign (.Tuple tgs kk p1) X.env] := by rfl) : RunS X B (.Assign [.Tuple tgs kk p1] e pos) Γ D :=
  ⟨fun G0 H0 σ G H DH s d => tS_of (ps_asg pe_self pg_self hs hw h1) ((EvD.of h).run σ G H _ s.gr.ok s.en fun v G1 H1 x g dx kx =>
    kx.run σ G1 H1 v _ g.ok (s.en.grow g) dx fun Γ' σ' en ow st kk => d.nx Γ' σ' G1 H1 ((s.grow g).own en ow) kk)⟩
/-- a, b = x, y (two local names) -/
theorem rs_par (i j : Nat) {x y : Str} {e1 e2 : Expr} {px py pt : Pos} {kt k2 pt2} (hc : X.calm = true) (hN : X.N.Nodup) (h : EvE X B e1 Γ fun r1 => EvE X B e2 Γ fun r2 => D.nx ((Γ.set i r1).set j r2)) (hi : X.N[i]? = some x := by rfl) (hj : X.N[j]? = some y := by rfl) (hij : i ≠ j := by decide)
    (hx : X.env.scope.names.lookup x = some .local := by rfl) (hy : X.env.scope.names.lookup y = some .local := by rfl)
    (hw : swappedStores [.Tuple [.Name x px, .Name y py] kt pt] (.Tuple [e1, e2] k2 pt2) X.env = pure (some [x, y]) := by rfl)
    (hs : swapsWithSole [.Tuple [.Name x px, .Name y py] kt pt] (.Tuple [e1, e2] k2 pt2) pos.line X.env = pure false := by rfl)
    (hst : starEach [e1, e2] X.env = (false, eval e1 X.env) :: starEach [e2] X.env := by rfl) (hst2 : starEach [e2] X.env = (false, eval e2 X.env) :: starEach [] X.env := by rfl) :
    RunS X B (.Assign [.Tuple [.Name x px, .Name y py] kt pt] (.Tuple [e1, e2] k2 pt2) pos) Γ D :=
  ⟨fun G0 H0 σ G H DH s d => tS_of (ps_par hc hN hi hj hij hx hy (pa_cons pe_self (pa_cons pe_self pa_nil hst2) hst) hw hs) (h.run σ G H _ s.gr.ok s.en fun v1 G1 H1 r1 g1 re1 k1 => k1.run σ G1 H1 _ g1.ok (s.en.grow g1) fun v2 G2 H2 r2 g2 re2 k2 => by
    refine ⟨v1, v2, rfl, d.nx _ _ G2 H2 ?_ k2⟩
    have s1 := s.asg g1 re1 i
    -- the second value is evaluated ahead of the first store: r1 is carried over g2
    have r12 : Res X.K B H G2 H2 v1 r1 := ⟨re1.1.grow g2, re1.2⟩
    have sa := s.asg (g1.trans g2) r12 i
    have fresh2 : Res X.K B H1 G2 H2 v2 r2 := re2
    -- store the second in the state behind the first
    refine ⟨s.gr.trans (g1.trans g2), ?_, fun a t p e o ev => ?_⟩
    · have e1 : EnvOk X.K B G1 H1 (σ.set i (some v1)) (Γ.set i r1) := s.en.asg g1 re1 i
      exact e1.asg g2 re2 j
    · have s2 : StOk X.K B G0 H0 ((σ.set i (some v1)).set j (some v2)) G2 H2 ((Γ.set i r1).set j r2) := s1.asg g2 re2 j
      exact s2.fr a t p e o ev)⟩

/-- xs.append(e), xs owned in slot i -/
theorem rs_app (i : Nat) {x nm : Str} {p1 p2 p3 : Pos} {ds : List PyData} (hg : Γ[i]? = some (.ol ds)) (hz : ds.length < 1000000) (h : EvE X B e Γ (Sl.dat fun d => D.nx (Γ.set i (.ol (ds ++ [d]))))) (hnm : nm = "append" := by rfl) (hN : X.N[i]? = some x := by rfl) (hv : Vis X.env.scope x := by first | exact Or.inl rfl | exact Or.inr (Or.inl rfl) | exact Or.inr (Or.inr rfl))
    (hd : (x == ("__debug__" : Str)) = false := by decide) (hcd : (x == ("__classdict__" : Str)) = false := by decide)
    (hbase : attributeBase (.Name x p1) nm X.env (eval (.Name x p1) X.env) = eval (.Name x p1) X.env := by rfl)
    (hfew : ((backTo p3 (starEach [e] X.env)).all (fun x => !x.1) && (backToKw p3 (keywordEach [] X.env)).all (fun x => x.1.isSome)
      && decide (([e] : List Expr).length + ([] : List Keyword).length + (if ([] : List Keyword).isEmpty then 0 else 1) < 30)) = true := by rfl)
    (hline : (p2.endLine == p3.line) = true := by rfl) (hs : starEach [e] X.env = (false, eval e X.env) :: starEach [] X.env := by rfl) (hplain : (backTo p3 (starEach [] X.env)).any (·.1) = false := by rfl)
    (hsw : swapsWith (.Call (.Attribute (.Name x p1) nm p2) [e] [] p3) none pos.line X.env = pure false := by rfl) : RunS X B (.Expr (.Call (.Attribute (.Name x p1) nm p2) [e] [] p3) pos) Γ D := by
  subst hnm
  refine ⟨fun G0 H0 σ G H DH s d => tS_of (ps_expr (pe_bm PySem.F.plainAttrs_list PySem.F.slot_list_append PySem.F.type_list_append mt_append (pe_var hN hv hd hcd) (pa_cons pe_self pa_nil hs) hbase hfew hline hs hplain) hsw) ?_⟩
  obtain ⟨v, e1, p, xs, ev, nb, z, hp, da⟩ := s.en.ok i _ hg (by simp)
  subst ev
  refine ⟨_, e1, .inl ⟨rfl, xs, L2.SqL.of hp⟩, ?_⟩
  refine (EvD.of h).run σ G H _ s.gr.ok s.en fun w G1 H1 dd g dw kd => ?_
  have s1 := s.grow g
  have z1 := g.n _ _ hp z
  have hp1 := g.h _ _ nb hp
  have hl := DpAll.length da
  refine ⟨p, xs, w, rfl, rfl, hp1, by rw [hl]; exact Nat.lt_of_lt_of_le hz (by decide), d.nx _ σ G1 _ ⟨⟨s1.gr.g, fun a o na e => ?_, s1.gr.n, s1.gr.ok.mut nb z1 _⟩, ?_, fun j t q e2 o2 e3 => ?_⟩ kd⟩
  · have hf := s.fr i _ p hg rfl e1
    have na2 : a ≠ p := ne_of_none e hf
    rw [upd_ne na2]
    exact s1.gr.h a o na e
  · exact s1.en.mut (s' := .ol (ds ++ [dd])) hg rfl e1 ⟨p, _, rfl, nb, z1, upd_same, DpAll.append (DpAll.ext g.g _ _ da) (.cons dw .nil)⟩ rfl
  · by_cases hj : i = j
    · subst hj
      have e4 := e1
      rw [e3] at e4
      cases e4
      exact s.fr i _ _ hg rfl e1
    · rw [List.getElem?_set_ne hj] at e2
      exact s.fr j t q e2 o2 e3
/-! ### what is walked -/
structure Wk (K : PySem.W.Frag) (B : Bg) (J : It) (ds : List PyData) (G1 : Hp) : Prop where
  go : ∀ (i : Nat) H, i < ds.length → Ext G1 H → J.go i H
  yl : ∀ (i : Nat) G H x H', i < ds.length → Ok B G H → Ext G1 G → J.yld i H x H' → ∃ d G', ds[i]? = some d ∧ Grow B G H G' H' ∧ Dp K G' x d
  stop : ∀ H, Ext G1 H → J.stop ds.length H
def tI (X : Cx) (tg iter : Expr) : TI := fun σ H R => ∀ (pins : List (Addr × Obj)) (s : Shared), Inv X pins σ H s → wpAny (model X.prog X.w) X.A (eval iter X.env) (fun v s1 => wpAny (model X.prog X.w) X.A (pyIter v) (PIE X pins σ tg R) X.xe s1) X.xe s
theorem pi_self {tg iter : Expr} : PI X tg iter (tI X tg iter) := ⟨fun pins s σ H R I h => h pins s I⟩
structure EvI (X : Cx) (B : Bg) (tg iter : Expr) (Γ : List Sl) (k : List PyData → Prop) : Prop where
  run : ∀ (σ : L2.St) (G H : Hp) (R : It → Hp → Prop), Ok B G H → EnvOk X.K B G H σ Γ → (∀ J G' H' ds, Grow B G H G' H' → Wk X.K B J ds G' → k ds → R J H') → tI X tg iter σ H R
theorem tI_of {tg iter : Expr} {t : TI} {R : It → Hp → Prop} (h : PI X tg iter t) (q : t σ H R) : tI X tg iter σ H R := fun pins s I => h.run pins s σ H R I q
theorem wk_tup {p : Addr} {xs : List V} {ds : List PyData} (hs : SqT K G p xs) (ha : DpAll K G xs ds) : Wk K B (Itt K p) ds G where
  go := fun i H hi e => by
    rw [← DpAll.length ha] at hi
    exact ⟨xs, xs[i], SqT.ext e hs, List.getElem?_eq_getElem hi⟩
  yl := fun i G' H x H' _ o e y => by
    obtain ⟨rfl, y⟩ := y
    obtain ⟨d, hd, hx⟩ := DpAll.get ha (y xs (SqT.ext (e.trans o.ex) hs))
    exact ⟨d, G', hd, Grow.refl o, Dp.ext e _ _ hx⟩
  stop := fun H e => ⟨xs, SqT.ext e hs, by rw [DpAll.length ha]; exact Nat.le_refl _⟩
/-- the ints of a range -/
def rg (lo : Int) (n : Nat) : List PyData := (List.range n).map fun (i : Nat) => .int (lo + (i : Int))
theorem rg_length (lo : Int) (n : Nat) : (rg lo n).length = n := by unfold rg; rw [List.length_map, List.length_range]
theorem rg_get {lo : Int} {n i : Nat} (h : i < n) : (rg lo n)[i]? = some (.int (lo + (i : Int))) := by
  unfold rg
  rw [List.getElem?_map, List.getElem?_range h]
  rfl
theorem rg_get_inv {lo : Int} {n i : Nat} {d : PyData} (h : (rg lo n)[i]? = some d) : i < n ∧ d = .int (lo + (i : Int)) := by
  have hi : i < n := by
    have := (List.getElem?_eq_some_iff.mp h).1
    rwa [rg_length] at this
  rw [rg_get hi] at h
  exact ⟨hi, (Option.some.inj h).symm⟩
/-- Itr yields at any turn: the turn is told to be below n by go -/
theorem ei_list {tg iter : Expr} {k : List PyData → Prop} (h : EvE X B iter Γ (Sl.lst k)) : EvI X B tg iter Γ k :=
  ⟨fun σ G H R o en cont => tI_of (pi_list pe_self) (h.run σ G H _ o en fun v G1 H1 r g re kr => by
    have key : ∃ G2 ds, Grow B G H G2 H1 ∧ Dp X.K G2 v (.list ds) ∧ k ds := by
      cases r with
      | d z =>
        cases z with
        | list ds => exact ⟨G1, ds, g, re.1, kr⟩
        | _ => exact kr.elim
      | ol ds =>
        obtain ⟨G2, d, g2, hd, rfl⟩ := re.toD (f := fun z => z = .list ds) g (show (PyData.list ds = PyData.list ds) from rfl)
        exact ⟨G2, ds, g2, hd, kr⟩
      | _ => exact kr.elim
    obtain ⟨G2, ds, g2, hd, kd⟩ := key
    obtain ⟨p, xs, e, hs, ha⟩ := Dp.lst_inv hd
    refine ⟨p, e, ⟨xs, SqL.ext g2.ok.ex hs⟩, cont _ G2 H1 ds g2 ⟨fun i H hi e => ?_, fun i G' H x H' _ o e y => ?_, fun H e => ?_⟩ kd⟩
    · rw [← DpAll.length ha] at hi
      exact ⟨xs, xs[i], SqL.ext e hs, List.getElem?_eq_getElem hi⟩
    · obtain ⟨rfl, y⟩ := y
      obtain ⟨d, hd, hx⟩ := DpAll.get ha (y xs (SqL.ext (e.trans o.ex) hs))
      exact ⟨d, G', hd, Grow.refl o, Dp.ext e _ _ hx⟩
    · exact ⟨xs, SqL.ext e hs, by rw [DpAll.length ha]; exact Nat.le_refl _⟩)⟩
theorem ei_tup {tg iter : Expr} {k : List PyData → Prop} (h : EvE X B iter Γ (Sl.tup k)) : EvI X B tg iter Γ k :=
  ⟨fun σ G H R o en cont => tI_of (pi_tup pe_self) (h.run σ G H _ o en fun v G1 H1 r g re kr => by
    obtain ⟨p, xs, ds, e, hs, ha, q⟩ := tup_inv re kr
    exact ⟨p, e, ⟨xs, SqT.ext g.ok.ex hs⟩, cont _ G1 H1 ds g (wk_tup hs ha) q⟩)⟩
end
end Ab
namespace Ab
open PySem PySem.Spec L2 RZ
section
variable {X : Cx} {B : Bg} {Γ : List Sl} {D : Dn} {st : Stmt} {rest a b body : List Stmt} {e c e1 e2 : Expr} {es : List Expr} {pos p1 : Pos} {k : Sl → Prop}

theorem wk_rng {K : PySem.W.Frag} {G : Hp} (lo : Int) (n : Nat) : Wk K B (Itr lo n) (rg lo n) G where
  go := fun i H hi _ => by rw [rg_length] at hi; exact hi
  yl := fun i G' H x H' hi o e y => by
    obtain ⟨rfl, rfl⟩ := y
    rw [rg_length] at hi
    exact ⟨_, G', rg_get hi, Grow.refl o, .int _⟩
  stop := fun H _ => by rw [rg_length]; exact Nat.le_refl _
def Rb (i : Int) : Prop := -(2 ^ 62) ≤ i ∧ i < 2 ^ 62
theorem ei_rng1 {tg : Expr} {f : List PyData → Prop} (hm : X.mg "range" = none) (h : EvE X B e Γ (Sl.int fun j => Rb j ∧ f (rg 0 j.toNat))) (hg : Gl X "range" := by rfl) (hs : starEach [e] X.env = [(false, eval e X.env)] := by rfl) (hs' : starEach [e] X.env = (false, eval e X.env) :: starEach [] X.env := by rfl) : EvI X B tg (.Call (.Name "range" p1) [e] [] pos) Γ f :=
  ⟨fun σ G H R o en cont => tI_of (pi_range1 hg hm (pa_cons pe_self pa_nil hs') hs) (h.run σ G H _ o en fun v G1 H1 r g re kr => by
    obtain ⟨j, rfl, q1, q2⟩ := int_inv re kr
    exact ⟨j, rfl, q1.1, q1.2, cont _ G1 H1 _ g (wk_rng 0 _) q2⟩)⟩
theorem ei_rng2 {tg : Expr} {f : List PyData → Prop} (hm : X.mg "range" = none) (h : EvE X B e1 Γ (Sl.int fun i => EvE X B e2 Γ (Sl.int fun j => Rb i ∧ Rb j ∧ f (rg i (j - i).toNat)))) (hg : Gl X "range" := by rfl)
    (hs : starEach [e1, e2] X.env = [(false, eval e1 X.env), (false, eval e2 X.env)] := by rfl) (hs2 : starEach [e2] X.env = [(false, eval e2 X.env)] := by rfl) (hs' : starEach [e1, e2] X.env = (false, eval e1 X.env) :: starEach [e2] X.env := by rfl) (hs2' : starEach [e2] X.env = (false, eval e2 X.env) :: starEach [] X.env := by rfl) :
    EvI X B tg (.Call (.Name "range" p1) [e1, e2] [] pos) Γ f :=
  ⟨fun σ G H R o en cont => tI_of (pi_range2 hg hm (pa_cons pe_self (pa_cons pe_self pa_nil hs2') hs') hs hs2) (h.run σ G H _ o en fun v G1 H1 r g re kr => by
    obtain ⟨i, rfl, q1⟩ := int_inv re kr
    refine q1.run σ G1 H1 _ g.ok (en.grow g) fun w G2 H2 r2 g2 re2 k2 => ?_
    obtain ⟨j, rfl, a1, a2, q2⟩ := int_inv re2 k2
    exact ⟨i, j, rfl, ⟨a1.1, a1.2, a2.1, a2.2⟩, cont _ G2 H2 _ (g.trans g2) (wk_rng i _) q2⟩)⟩
/-- zip of two tuples -/
def zipD (xs ys : List PyData) : List PyData := List.zipWith (fun x y => .tuple [x, y]) xs ys
theorem zipD_get {xs ys : List PyData} {i : Nat} {x y : PyData} (h1 : xs[i]? = some x) (h2 : ys[i]? = some y) : (zipD xs ys)[i]? = some (.tuple [x, y]) := by
  unfold zipD
  rw [List.getElem?_zipWith, h1, h2]
theorem zipD_length (xs ys : List PyData) : (zipD xs ys).length = min xs.length ys.length := List.length_zipWith
theorem wk_zipT {K : PySem.W.Frag} {G : Hp} {a b : Addr} {xs ys : List V} {ds es : List PyData} (hx : SqT K G a xs) (hy : SqT K G b ys) (dx : DpAll K G xs ds) (dy : DpAll K G ys es) : Wk K B (ItzT K a b) (zipD ds es) G where
  go := fun i H hi e => by
    rw [zipD_length, ← DpAll.length dx, ← DpAll.length dy] at hi
    have h1 : i < xs.length := by omega
    have h2 : i < ys.length := by omega
    exact ⟨xs, ys, xs[i], ys[i], SqT.ext e hx, SqT.ext e hy, List.getElem?_eq_getElem h1, List.getElem?_eq_getElem h2⟩
  yl := fun i G' H v H' hi o e y => by
    obtain ⟨T, x', y', rfl, hT, rfl, f1, f2⟩ := y
    obtain ⟨d1, e1, h1⟩ := DpAll.get dx (f1 xs (SqT.ext (e.trans o.ex) hx))
    obtain ⟨d2, e2, h2⟩ := DpAll.get dy (f2 ys (SqT.ext (e.trans o.ex) hy))
    have gn := Grow.new o hT (.tup [x', y'])
    exact ⟨_, _, zipD_get e1 e2, gn, .tup (SqT.of upd_same) (.cons (Dp.ext (e.trans gn.g) _ _ h1) (.cons (Dp.ext (e.trans gn.g) _ _ h2) .nil))⟩
  stop := fun H e => ⟨xs, ys, SqT.ext e hx, SqT.ext e hy, by
    rw [zipD_length, ← DpAll.length dx, ← DpAll.length dy]
    omega⟩
theorem wk_zipL {K : PySem.W.Frag} {G : Hp} {a b : Addr} {xs ys : List V} {ds es : List PyData} (hx : SqL K G a xs) (hy : SqL K G b ys) (dx : DpAll K G xs ds) (dy : DpAll K G ys es) : Wk K B (Itz K a b) (zipD ds es) G where
  go := fun i H hi e => by
    rw [zipD_length, ← DpAll.length dx, ← DpAll.length dy] at hi
    have h1 : i < xs.length := by omega
    have h2 : i < ys.length := by omega
    exact ⟨xs, ys, xs[i], ys[i], SqL.ext e hx, SqL.ext e hy, List.getElem?_eq_getElem h1, List.getElem?_eq_getElem h2⟩
  yl := fun i G' H v H' hi o e y => by
    obtain ⟨T, x', y', rfl, hT, rfl, f1, f2⟩ := y
    obtain ⟨d1, e1, h1⟩ := DpAll.get dx (f1 xs (SqL.ext (e.trans o.ex) hx))
    obtain ⟨d2, e2, h2⟩ := DpAll.get dy (f2 ys (SqL.ext (e.trans o.ex) hy))
    have gn := Grow.new o hT (.tup [x', y'])
    exact ⟨_, _, zipD_get e1 e2, gn, .tup (SqT.of upd_same) (.cons (Dp.ext (e.trans gn.g) _ _ h1) (.cons (Dp.ext (e.trans gn.g) _ _ h2) .nil))⟩
  stop := fun H e => ⟨xs, ys, SqL.ext e hx, SqL.ext e hy, by
    rw [zipD_length, ← DpAll.length dx, ← DpAll.length dy]
    omega⟩
theorem ei_zipT {elts : List Expr} {kk : Nat} {tpos : Pos} {f : List PyData → Prop} (hm : X.mg "zip" = none) (h : EvE X B e1 Γ (Sl.tup fun xs => EvE X B e2 Γ (Sl.tup fun ys => f (zipD xs ys)))) (hg : Gl X "zip" := by rfl)
    (hs : starEach [e1, e2] X.env = (false, eval e1 X.env) :: starEach [e2] X.env := by rfl) (hs2 : starEach [e2] X.env = (false, eval e2 X.env) :: starEach [] X.env := by rfl) (hpl : (backTo pos (starEach [e2] X.env)).any (·.1) = false := by rfl) :
    EvI X B (.Tuple elts kk tpos) (.Call (.Name "zip" p1) [e1, e2] [] pos) Γ f :=
  ⟨fun σ G H R o en cont => tI_of (pi_zipA hg hm (pa_cons pe_self (pa_cons pe_self pa_nil hs2) hs) hs hpl) (h.run σ G H _ o en fun v G1 H1 r g re kr => by
    obtain ⟨p, xs, ds, rfl, hx, dx, q1⟩ := tup_inv re kr
    refine q1.run σ G1 H1 _ g.ok (en.grow g) fun w G2 H2 r2 g2 re2 k2 => ?_
    obtain ⟨q, ys, es, rfl, hy, dy, q2⟩ := tup_inv re2 k2
    exact ⟨p, q, xs, ys, rfl, .inr ⟨SqT.ext (g2.g.trans g2.ok.ex) hx, SqT.ext g2.ok.ex hy, cont _ G2 H2 _ (g.trans g2) (wk_zipT (SqT.ext g2.g hx) hy (DpAll.ext g2.g _ _ dx) dy) q2⟩⟩)⟩

/-! ### loops -/
theorem Grow.rebase {G0 H0 G1 H1 G H : Hp} (a : Grow B G0 H0 G1 H1) (b : Grow B G1 H0 G H) : Grow B G0 H0 G H :=
  ⟨a.g.trans b.g, b.h, fun x o e z => b.n x o e (a.n x o e z), b.ok⟩
theorem StOk.base {K : PySem.W.Frag} {G0 H0 G1 H1 : Hp} {σ : L2.St} (s : StOk K B G0 H0 σ G1 H1 Γ) : StOk K B G1 H0 σ G1 H1 Γ := ⟨⟨Ext.refl _, s.gr.h, fun x o e z => z, s.gr.ok⟩, s.en, s.fr⟩
theorem StOk.rebase {K : PySem.W.Frag} {G0 H0 G1 H1 G H : Hp} {σ : L2.St} {Γ' : List Sl} (a : Grow B G0 H0 G1 H1) (s : StOk K B G1 H0 σ G H Γ') : StOk K B G0 H0 σ G H Γ' := ⟨a.rebase s.gr, s.en, s.fr⟩
theorem rs_for {tg iter : Expr} (is : List Nat) (hp : PassesOwn (model X.prog X.w) X.A X.env X.xe) (hc : X.calm = true)
    (h : EvI X B tg iter Γ fun ds => ∃ P : Nat → List Sl → Prop, P 0 Γ ∧ (∀ (i : Nat) d Γ', ds[i]? = some d → P i Γ' → AsgT X B tg is d Γ' fun Γ2 => RunSs X B body Γ2 { nx := P (i + 1), rt := D.rt, bk := D.nx, ct := P (i + 1), ex := D.ex }) ∧ ∀ Γ', P ds.length Γ' → D.nx Γ')
    (hs : ∀ x, foldedSetIterable iter X.env x = pure x := by intro _; rfl) : RunS X B (.For tg iter body [] pos) Γ D :=
  ⟨fun G0 H0 σ G H DH s d => tS_of (ps_for hp hc pi_self pg_self pss_self hs) (h.run σ G H _ s.gr.ok s.en fun J G1 H1 ds g wk ⟨P, p0, step, fin⟩ => by
    have s1 := s.grow g
    refine ⟨fun i m σ' H' => m = ds.length - i ∧ i ≤ ds.length ∧ ∃ G' Γ', StOk X.K B G1 H0 σ' G' H' Γ' ∧ P i Γ', ⟨ds.length, rfl, Nat.zero_le _, G1, Γ, s1.base, p0⟩, ?_⟩
    rintro i m σ' H' ⟨rfl, hi, G', Γ', s', pi⟩
    have eg := s'.gr.g
    by_cases hlt : i < ds.length
    · refine .inr ⟨wk.go i H' hlt (eg.trans s'.gr.ok.ex), fun σ2 H2 => ∃ G2 Γ2, StOk X.K B G1 H0 σ2 G2 H2 Γ2 ∧ P (i + 1) Γ2, fun σ2 H2 ⟨G2, Γ2, s2, p2⟩ => ⟨ds.length - (i + 1), by omega, rfl, hlt, G2, Γ2, s2, p2⟩, fun x H2 y => ?_⟩
      obtain ⟨z, G2, hz, g2, dz⟩ := wk.yl i G' H' x H2 hlt s'.gr.ok eg y
      have s2 := s'.grow g2
      refine (step i z Γ' hz pi).run σ' G2 H2 x _ s2.gr.ok s2.en dz fun Γ3 σ3 en3 ow3 _ run3 => ?_
      refine run3.run G1 H0 σ3 G2 H2 _ (s2.own en3 ow3) ⟨fun Γ4 σ4 G4 H4 s4 p4 => ⟨G4, Γ4, s4, p4⟩, fun v G4 H4 r g4 re q => d.rt v G4 H4 r (s1.gr.rebase g4) re q, fun Γ4 σ4 G4 H4 s4 p4 => d.nx Γ4 σ4 G4 H4 (s4.rebase s1.gr) p4, fun Γ4 σ4 G4 H4 s4 p4 => ⟨G4, Γ4, s4, p4⟩, fun G5 H5 g5 => d.ex G5 H5 (s1.gr.rebase g5)⟩
    · have e : i = ds.length := by omega
      subst e
      exact .inl ⟨wk.stop H' (eg.trans s'.gr.ok.ex), d.nx Γ' σ' G' H' (s'.rebase s1.gr) (fin Γ' pi)⟩)⟩
theorem rs_while (hp : PassesOwn (model X.prog X.w) X.A X.env X.xe)
    (h : ∃ P : Nat → List Sl → Prop, (∃ m, P m Γ) ∧ ∀ m Γ', P m Γ' → EvT X B c Γ' fun t => if t = true then RunSs X B body Γ' { nx := fun Γ2 => ∃ m', m' < m ∧ P m' Γ2, rt := D.rt, bk := D.nx, ct := fun Γ2 => ∃ m', m' < m ∧ P m' Γ2, ex := D.ex } else D.nx Γ') :
    RunS X B (.While c body [] pos) Γ D :=
  ⟨fun G0 H0 σ G H DH s d => tS_of (ps_while hp pt_self pss_self) (by
    obtain ⟨P, ⟨m0, p0⟩, step⟩ := h
    refine ⟨fun m σ' H' => ∃ G' Γ', StOk X.K B G0 H0 σ' G' H' Γ' ∧ P m Γ', ⟨m0, G, Γ, s, p0⟩, ?_⟩
    rintro m σ' H' ⟨G', Γ', s', pm⟩
    refine (step m Γ' pm).run σ' G' H' _ s'.gr.ok s'.en fun t G2 H2 g2 kt => ?_
    have s2 := s'.grow g2
    cases t with
    | true =>
      rw [if_pos rfl] at kt ⊢
      refine ⟨fun σ2 H2 => ∃ m', m' < m ∧ ∃ G2 Γ2, StOk X.K B G0 H0 σ2 G2 H2 Γ2 ∧ P m' Γ2, fun σ2 H2 ⟨m', hm, G2, Γ2, s2, p2⟩ => ⟨m', hm, G2, Γ2, s2, p2⟩, ?_⟩
      exact kt.run G0 H0 σ' G2 H2 _ s2 ⟨fun Γ4 σ4 G4 H4 s4 ⟨m', hm, p4⟩ => ⟨m', hm, G4, Γ4, s4, p4⟩, d.rt, d.nx, fun Γ4 σ4 G4 H4 s4 ⟨m', hm, p4⟩ => ⟨m', hm, G4, Γ4, s4, p4⟩, d.ex⟩
    | false =>
      rw [if_neg Bool.false_ne_true] at kt ⊢
      exact d.nx Γ' σ' G2 H2 s2 kt)⟩

/-! ### list comprehensions -/
theorem wipe_in {σ : L2.St} {i : Nat} : ∀ {vs : List Nat}, i ∈ vs → i < σ.length → (wipe σ vs)[i]? = some none
  | [], h, _ => by simp at h
  | v :: vs, h, hi => by
    unfold wipe
    by_cases hv : v = i
    · subst hv
      rw [List.getElem?_set_self (by rw [wipe_length]; exact hi)]
    · rw [List.getElem?_set_ne hv]
      exact wipe_in (by rcases List.mem_cons.mp h with z | z; exact absurd z.symm hv; exact z) hi
theorem wipe_sto {σ σ' : L2.St} {is vs : List Nat} (s : Sto is σ σ') (h : ∀ i ∈ is, i ∈ vs) : wipe σ' vs = wipe σ vs := by
  apply List.ext_getElem?
  intro i
  by_cases hv : i ∈ vs
  · by_cases hi : i < σ.length
    · rw [wipe_in hv hi, wipe_in hv (by rw [s.len]; exact hi)]
    · rw [List.getElem?_eq_none (by rw [wipe_length, s.len]; omega), List.getElem?_eq_none (by rw [wipe_length]; omega)]
  · rw [wipe_out hv, wipe_out hv]
    exact s.out i fun z => hv (h i z)
/-- the slots of the block's own names forgotten -/
def wipeS (Γ : List Sl) : List Nat → List Sl
  | [] => Γ
  | v :: vs => (wipeS Γ vs).set v .x
theorem EnvOk.wipe {K : PySem.W.Frag} {G H : Hp} {σ : L2.St} (h : EnvOk K B G H σ Γ) : ∀ vs : List Nat, EnvOk K B G H (L2.wipe σ vs) (wipeS Γ vs)
  | [] => h
  | v :: vs => by
    have ih := EnvOk.wipe h vs
    have back : ∀ (j : Nat) s, ((wipeS Γ vs).set v .x)[j]? = some s → s ≠ .x → v ≠ j ∧ (wipeS Γ vs)[j]? = some s := fun j s e n => by
      by_cases hj : v = j
      · subst hj
        by_cases hi : v < (wipeS Γ vs).length
        · rw [List.getElem?_set_self hi] at e; cases e; exact absurd rfl n
        · rw [List.getElem?_eq_none (by simpa using hi)] at e; cases e
      · rw [List.getElem?_set_ne hj] at e; exact ⟨hj, e⟩
    refine ⟨by unfold L2.wipe wipeS; simpa using ih.len, ih.tt, fun j s e n => ?_, fun a b s t u ne ea eb oa ob va vb => ?_⟩
    · obtain ⟨hj, e⟩ := back j s e n
      obtain ⟨w, a, b⟩ := ih.ok j s e n
      exact ⟨w, by unfold L2.wipe; rw [List.getElem?_set_ne hj]; exact a, b⟩
    · obtain ⟨ha, ea⟩ := back a s ea (by rintro rfl; cases oa)
      obtain ⟨hb, eb⟩ := back b t eb (by rintro rfl; cases ob)
      unfold L2.wipe at va vb
      rw [List.getElem?_set_ne ha] at va
      rw [List.getElem?_set_ne hb] at vb
      exact ih.sep a b s t u ne ea eb oa ob va vb
/-- a block's context -/
abbrev Bk (X : Cx) (scope : Scope) (s : Shared) (H : Hp) (C : Addr) (cl : List (Str × Addr)) (fp : List Addr) : Cx := X.blk s H scope (compEnvC scope cl C X.env) fp
structure EvTs (X : Cx) (B : Bg) (ifs : List Expr) (Γ : List Sl) (k : Bool → Prop) : Prop where
  run : ∀ (σ : L2.St) (G H : Hp) (Q : Bool → Hp → Prop), Ok B G H → EnvOk X.K B G H σ Γ → (∀ b G' H', Grow B G H G' H' → k b → Q b H') →
    ∀ (pins : List (Addr × Obj)) (s : Shared), Inv X pins σ H s → wpAny (model X.prog X.w) X.A (forIn ifs true fun c r => if r = true then do let ok ← isTrue c X.env (eval c X.env); pure (ForInStep.yield ok) else pure (ForInStep.yield r)) (TP X pins σ Q) X.xe s
theorem ets_nil {f : Bool → Prop} (q : f true) : EvTs X B [] Γ f := ⟨fun σ G H Q o en cont pins s I => pts_nil.run pins s σ H Q I (cont true G H (Grow.refl o) q)⟩
theorem ets_one {f : Bool → Prop} (h : EvT X B c Γ f) : EvTs X B [c] Γ f := ⟨fun σ G H Q o en cont pins s I => (pts_one pt_self).run pins s σ H Q I (h.run σ G H Q o en cont)⟩
/-- a comprehension's parts, in any block -/
def gB (X : Cx) (scope : Scope) (tg : Expr) : TG := fun v σ H Q => ∀ s H0 C cl fp, tG (Bk X scope s H0 C cl fp) tg v σ H Q
def ttB (X : Cx) (scope : Scope) (ifs : List Expr) : TT := fun σ H Q => ∀ s0 H0 C cl fp pins s, Inv (Bk X scope s0 H0 C cl fp) pins σ H s → wpAny (model X.prog X.w) X.A (forIn ifs true fun c r => if r = true then do let ok ← isTrue c (compEnvC scope cl C X.env) (eval c (compEnvC scope cl C X.env)); pure (ForInStep.yield ok) else pure (ForInStep.yield r)) (TP (Bk X scope s0 H0 C cl fp) pins σ Q) (Bk X scope s0 H0 C cl fp).xe s
def teB (X : Cx) (scope : Scope) (elt : Expr) : TE := fun σ H Q => ∀ s H0 C cl fp, tE (Bk X scope s H0 C cl fp) elt σ H Q
def LcStep (X : Cx) (B : Bg) (tg elt : Expr) (ifs : List Expr) (scope : Scope) (own : List (Str × Nat)) (is : List Nat) (Γ : List Sl) (k : Sl → Prop) (ds : List PyData) : Prop :=
  ∃ P : Nat → List PyData → Prop, P 0 [] ∧ ds.length ≤ 1000000 ∧ (∀ (i : Nat) d acc, ds[i]? = some d → P i acc → ∀ s H C cl fp, AsgT (Bk X scope s H C cl fp) B tg is d (wipeS Γ (own.map (·.2))) fun Γ2 =>
      ∀ s H C cl fp, EvTs (Bk X scope s H C cl fp) B ifs Γ2 fun t => if t = true then ∀ s H C cl fp, EvE (Bk X scope s H C cl fp) B elt Γ2 (Sl.dat fun y => P (i + 1) (acc ++ [y])) else P (i + 1) acc) ∧ ∀ acc, P ds.length acc → k (.ol acc)
theorem lc_read {elt tg iter : Expr} {ifs : List Expr} {scope : Scope} (own : List (Str × Nat)) (is : List Nat) (his : ∀ i ∈ is, i ∈ own.map (·.2)) (h : EvI X B tg iter Γ (LcStep X B tg elt ifs scope own is Γ k)) (σ : L2.St) (G H : Hp) (Q : VK) (o : Ok B G H) (en : EnvOk X.K B G H σ Γ)
    (cont : ∀ v G' H' r, Grow B G H G' H' → Res X.K B H G' H' v r → k r → Q v H') : tLc (tI X tg iter) (gB X scope tg) (ttB X scope ifs) (teB X scope elt) (own.map (·.2)) σ H Q := by
  refine h.run σ G H _ o en fun J G1 H1 ds g wk ⟨P, p0, hlen, step, fin⟩ => ?_
  intro D hD
  have nbD : ¬ B D := g.ok.notfree hD
  have gD : G1 D = none := g.ok.ex.free hD
  have en1 := (en.grow g).wipe (own.map (·.2))
  -- what holds between two turns
  refine ⟨fun i m H' => m = ds.length - i ∧ i ≤ ds.length ∧ ∃ G' acc xs, Grow B G1 H1 G' H' ∧ G' D = none ∧ H' D = some (.lst xs) ∧ DpAll X.K G' xs acc ∧ acc.length ≤ i ∧ P i acc, ⟨ds.length, rfl, Nat.zero_le _, G1, [], [], Grow.newOwn g.ok hD _, gD, upd_same, .nil, Nat.le_refl _, p0⟩, ?_⟩
  rintro i m H' ⟨rfl, hi, G', acc, xs, g', gd, hd, da, hl, pi⟩
  have eg := g'.g
  by_cases hlt : i < ds.length
  · refine .inr ⟨wk.go i H' hlt (eg.trans g'.ok.ex), fun H2 => i + 1 ≤ ds.length ∧ ∃ G' acc xs, Grow B G1 H1 G' H2 ∧ G' D = none ∧ H2 D = some (.lst xs) ∧ DpAll X.K G' xs acc ∧ acc.length ≤ i + 1 ∧ P (i + 1) acc, fun H2 ⟨h1, q⟩ => ⟨ds.length - (i + 1), by omega, rfl, h1, q⟩, fun x H2 y => ?_⟩
    obtain ⟨z, G2, hz, g2, dz⟩ := wk.yl i G' H' x H2 hlt g'.ok eg y
    have g02 := g'.trans g2
    have gd2 := g2.n D _ hd gd
    have hd2 := g2.h D _ nbD hd
    have en2 := en1.grow g02
    intro s0 H0 C cl fp
    have st := step i z acc hz pi
    have hst := st s0 H0 C cl fp
    refine hst.run _ G2 H2 x _ g02.ok en2 dz fun Γ3 σ3 en3 ow3 sto3 k3 => ?_
    refine ⟨wipe_sto sto3 his |>.trans ?_, ?_⟩
    · apply List.ext_getElem?
      intro j
      by_cases hv : j ∈ own.map (·.2)
      · by_cases hj : j < σ.length
        · rw [wipe_in hv (by rw [wipe_length]; exact hj), wipe_in hv hj]
        · rw [List.getElem?_eq_none (by rw [wipe_length, wipe_length]; omega), List.getElem?_eq_none (by rw [wipe_length]; omega)]
      · rw [wipe_out hv]
    · intro s1 H10 C1 cl1 fp1 pins s I
      refine (k3 s1 H10 C1 cl1 fp1).run σ3 G2 H2 _ g02.ok en3 (fun t G4 H4 g4 k4 => ?_) pins s I
      have g04 := g02.trans g4
      cases t with
      | true =>
        rw [if_pos rfl] at k4 ⊢
        intro s5 H50 C5 cl5 fp5
        refine (EvD.of (k4 s5 H50 C5 cl5 fp5)).run σ3 G4 H4 _ g4.ok (en3.grow g4) fun v G6 H6 y g6 dy py => ?_
        have hd4 := g6.h D _ nbD (g4.h D _ nbD hd2)
        have gd4 := g6.n D _ (g4.h D _ nbD hd2) (g4.n D _ hd2 gd2)
        have hlx : xs.length = acc.length := DpAll.length da
        refine ⟨xs, hd4, ?_, hlt, G6, acc ++ [y], xs ++ [v], ⟨(g04.trans g6).g, fun a o nb e => ?_, (g04.trans g6).n, g6.ok.mut nbD gd4 _⟩, gd4, upd_same, DpAll.append (DpAll.ext (g2.g.trans (g4.g.trans g6.g)) _ _ da) (.cons dy .nil), ?_, py⟩
        · rw [hlx]
          exact Nat.lt_of_le_of_lt hl (Nat.lt_of_lt_of_le hlt (Nat.le_trans hlen (by decide)))
        · have na : a ≠ D := ne_of_none e hD
          rw [upd_ne na]
          exact (g04.trans g6).h a o nb e
        · rw [List.length_append]
          exact Nat.add_le_add_right hl 1
      | false =>
        rw [if_neg Bool.false_ne_true] at k4 ⊢
        exact ⟨hlt, G4, acc, xs, g04, g4.n D _ hd2 gd2, g4.h D _ nbD hd2, DpAll.ext (g2.g.trans g4.g) _ _ da, Nat.le_succ_of_le hl, k4⟩
  · have e : i = ds.length := by omega
    subst e
    refine .inl ⟨wk.stop H' (eg.trans g'.ok.ex), cont _ G' H' (.ol acc) (g.trans g') ⟨⟨D, xs, rfl, nbD, gd, hd, da⟩, fun _ p e => by cases e; exact g.free hD⟩ (fin acc pi)⟩
/-- [elt for x in xs] -/
theorem lc_map {α : Type} {elt : Expr} {scope : Scope} {own : List (Str × Nat)} {x : Str} {ds : List PyData} (i : Nat) (xs : List α) (enc r : α → PyData) (hN : X.N.Nodup) (he : ds = xs.map enc) (hz : xs.length ≤ 1000000)
    (step : ∀ a ∈ xs, ∀ s H C cl fp, EvE (Bk X scope s H C cl fp) B elt ((wipeS Γ (own.map (·.2))).set i (.d (enc a))) (Sl.dat fun y => y = r a)) (q : k (.ol (xs.map r)))
    (hi : X.N[i]? = some x := by rfl) (hx : ∀ (cl : List (Str × Addr)) (C : Addr), Loc (compEnvC scope cl C X.env).scope x := by intro _ _; first | exact Or.inl rfl | exact Or.inr rfl)
    (hf : ∀ (cl : List (Str × Addr)) (C : Addr), (scope.names.lookup x == some .cell) = true ∨ (compEnvC scope cl C X.env).scope.names.lookup x = some .local := by intro _ _; first | exact .inl rfl | exact .inr rfl) : LcStep X B (.Name x p1) elt [] scope own [i] Γ k ds := by
  subst he
  refine ⟨fun j acc => acc = (xs.take j).map r, by simp, by rw [List.length_map]; exact hz, fun j d acc hd ha s H C cl fp => ?_, fun acc ha => ?_⟩
  · rw [List.getElem?_map] at hd
    cases e : xs[j]? with
    | none => rw [e] at hd; cases hd
    | some a =>
      rw [e] at hd
      cases hd
      refine at_name (X := Bk X scope s H C cl fp) i hN (fun s H C cl fp => ets_nil fun s H C cl fp => ?_) hi (hx cl C) (hf cl C)
      refine ⟨fun σ G Hh Q o en cont => (step a (List.mem_of_getElem? e) s H C cl fp).run σ G Hh Q o en fun v G' H' r' g re kr => cont v G' H' r' g re ?_⟩
      have ha : acc = (xs.take j).map r := ha
      have fin : ∀ y, y = r a → acc ++ [y] = (xs.take (j + 1)).map r := fun y hy => by
        rw [ha, hy, List.take_succ, e, List.map_append]
        rfl
      cases r' with
      | d z => exact fin _ kr
      | ol z => exact fin _ kr
      | _ => exact kr
  · have ha : acc = (xs.take (xs.map enc).length).map r := ha
    rw [List.length_map, List.take_length] at ha
    rw [ha]
    exact q
/-- [elt for x in xs if c] -/
theorem lc_fil {α : Type} {elt tst : Expr} {scope : Scope} {own : List (Str × Nat)} {x : Str} {ds : List PyData} (i : Nat) (xs : List α) (enc r : α → PyData) (f : α → Bool) (hN : X.N.Nodup) (he : ds = xs.map enc) (hz : xs.length ≤ 1000000)
    (test : ∀ a ∈ xs, ∀ s H C cl fp, EvT (Bk X scope s H C cl fp) B tst ((wipeS Γ (own.map (·.2))).set i (.d (enc a))) fun t => t = f a)
    (step : ∀ a ∈ xs, f a = true → ∀ s H C cl fp, EvE (Bk X scope s H C cl fp) B elt ((wipeS Γ (own.map (·.2))).set i (.d (enc a))) (Sl.dat fun y => y = r a)) (q : k (.ol ((xs.filter f).map r)))
    (hi : X.N[i]? = some x := by rfl) (hx : ∀ (cl : List (Str × Addr)) (C : Addr), Loc (compEnvC scope cl C X.env).scope x := by intro _ _; first | exact Or.inl rfl | exact Or.inr rfl)
    (hf : ∀ (cl : List (Str × Addr)) (C : Addr), (scope.names.lookup x == some .cell) = true ∨ (compEnvC scope cl C X.env).scope.names.lookup x = some .local := by intro _ _; first | exact .inl rfl | exact .inr rfl) : LcStep X B (.Name x p1) elt [tst] scope own [i] Γ k ds := by
  subst he
  refine ⟨fun j acc => acc = ((xs.take j).filter f).map r, by simp, by rw [List.length_map]; exact hz, fun j d acc hd ha s H C cl fp => ?_, fun acc ha => ?_⟩
  · rw [List.getElem?_map] at hd
    cases e : xs[j]? with
    | none => rw [e] at hd; cases hd
    | some a =>
      rw [e] at hd
      cases hd
      refine at_name (X := Bk X scope s H C cl fp) i hN (fun s H C cl fp => ets_one ⟨fun σ G Hh Q o en cont => (test a (List.mem_of_getElem? e) s H C cl fp).run σ G Hh Q o en fun t G1 H1 g1 kt => cont t G1 H1 g1 ?_⟩) hi (hx cl C) (hf cl C)
      have ha : acc = ((xs.take j).filter f).map r := ha
      subst kt
      cases ht : f a with
      | true =>
        rw [if_pos rfl]
        intro s H C cl fp
        refine ⟨fun σ G Hh Q o en cont => (step a (List.mem_of_getElem? e) ht s H C cl fp).run σ G Hh Q o en fun v G' H' r' g re kr => cont v G' H' r' g re ?_⟩
        have fin : ∀ y, y = r a → acc ++ [y] = ((xs.take (j + 1)).filter f).map r := fun y hy => by
          rw [ha, hy, List.take_succ, e, List.filter_append, List.map_append]
          simp [ht]
        cases r' with
        | d z => exact fin _ kr
        | ol z => exact fin _ kr
        | _ => exact kr
      | false =>
        rw [if_neg Bool.false_ne_true]
        show acc = ((xs.take (j + 1)).filter f).map r
        rw [ha, List.take_succ, e, List.filter_append, List.map_append]
        simp [ht]
  · have ha : acc = ((xs.take (xs.map enc).length).filter f).map r := ha
    rw [List.length_map, List.take_length] at ha
    rw [ha]
    exact q
theorem ee_lc {elt tg iter : Expr} {ifs : List Expr} {scope : Scope} (own : List (Str × Nat)) (is : List Nat) (hc : X.calm = true) (hN : X.N.Nodup) (ok : BlkOk X.N X.env.scope scope own) (his : ∀ i ∈ is, i ∈ own.map (·.2)) (h : EvI X B tg iter Γ (LcStep X B tg elt ifs scope own is Γ k))
    (hs : ∀ x, foldedSetIterable iter X.env x = pure x := by intro _; rfl) : EvE X B (.ListComp elt [⟨tg, iter, ifs, 0⟩] scope pos) Γ k :=
  ⟨fun σ G H Q o en cont => tE_of (pe_lc (own := own) (g := gB X scope tg) (tt := ttB X scope ifs) (te := teB X scope elt) hc hN pi_self ok (fun s H0 C cl fp => ⟨fun pins s' σ H v u Q I r h => h s H0 C cl fp pins s' u I r⟩) (fun s H0 C cl fp => ⟨fun pins s' σ H Q I h => h s H0 C cl fp pins s' I⟩) (fun s H0 C cl fp => ⟨fun pins s' σ H Q I h => h s H0 C cl fp pins s' I⟩) hs) (lc_read own is his h σ G H Q o en cont)⟩
/-- y = [..] -/
theorem rs_setLc (i : Nat) {y : Str} {py : Pos} {elt tg iter : Expr} {ifs : List Expr} {scope : Scope} (own : List (Str × Nat)) (is : List Nat) (hc : X.calm = true) (hN : X.N.Nodup) (ok : BlkOk X.N X.env.scope scope own) (his : ∀ i ∈ is, i ∈ own.map (·.2)) (h : EvI X B tg iter Γ (LcStep X B tg elt ifs scope own is Γ fun r => D.nx (Γ.set i r)))
    (hi : X.N[i]? = some y := by rfl) (hyl : X.env.scope.names.lookup y = some .local := by rfl) (hsw : swapsWith (.ListComp elt [⟨tg, iter, ifs, 0⟩] scope p1) (some (.Name y py)) pos.line X.env = pure true := by exact sw_true rfl rfl rfl (by decide +kernel))
    (hs : ∀ x, foldedSetIterable iter X.env x = pure x := by intro _; rfl) : RunS X B (.Assign [.Name y py] (.ListComp elt [⟨tg, iter, ifs, 0⟩] scope p1) pos) Γ D :=
  ⟨fun G0 H0 σ G H DH s d => tS_of (ps_setLc (own := own) (g := gB X scope tg) (tt := ttB X scope ifs) (te := teB X scope elt) hc hN hi hyl hsw pi_self ok (fun s H0 C cl fp => ⟨fun pins s' σ H v u Q I r h => h s H0 C cl fp pins s' u I r⟩) (fun s H0 C cl fp => ⟨fun pins s' σ H Q I h => h s H0 C cl fp pins s' I⟩) (fun s H0 C cl fp => ⟨fun pins s' σ H Q I h => h s H0 C cl fp pins s' I⟩) hs)
    (lc_read own is his h σ G H _ s.gr.ok s.en fun v G' H' r g re kr => d.nx _ _ G' H' (s.asg g re i) kr)⟩
/-- .. becomes data -/
theorem rs_setLcF (i : Nat) {y : Str} {py : Pos} {elt tg iter : Expr} {ifs : List Expr} {scope : Scope} (own : List (Str × Nat)) (is : List Nat) (hc : X.calm = true) (hN : X.N.Nodup) (ok : BlkOk X.N X.env.scope scope own) (his : ∀ i ∈ is, i ∈ own.map (·.2)) (h : EvI X B tg iter Γ (LcStep X B tg elt ifs scope own is Γ (Sl.arg fun r => D.nx (Γ.set i r))))
    (hi : X.N[i]? = some y := by rfl) (hyl : X.env.scope.names.lookup y = some .local := by rfl) (hsw : swapsWith (.ListComp elt [⟨tg, iter, ifs, 0⟩] scope p1) (some (.Name y py)) pos.line X.env = pure true := by exact sw_true rfl rfl rfl (by decide +kernel))
    (hs : ∀ x, foldedSetIterable iter X.env x = pure x := by intro _; rfl) : RunS X B (.Assign [.Name y py] (.ListComp elt [⟨tg, iter, ifs, 0⟩] scope p1) pos) Γ D :=
  ⟨fun G0 H0 σ G H DH s d => tS_of (ps_setLc (own := own) (g := gB X scope tg) (tt := ttB X scope ifs) (te := teB X scope elt) hc hN hi hyl hsw pi_self ok (fun s H0 C cl fp => ⟨fun pins s' σ H v u Q I r h => h s H0 C cl fp pins s' u I r⟩) (fun s H0 C cl fp => ⟨fun pins s' σ H Q I h => h s H0 C cl fp pins s' I⟩) (fun s H0 C cl fp => ⟨fun pins s' σ H Q I h => h s H0 C cl fp pins s' I⟩) hs)
    (lc_read own is his h σ G H _ s.gr.ok s.en fun v G' H' r g re kr => by
      obtain ⟨G2, t, g2, so, sk, q⟩ := re.toArg g kr
      exact d.nx _ _ G2 H' (s.asg g2 ⟨sk, fun z => by rw [so] at z; cases z⟩ i) q)⟩
end
end Ab
namespace Ab
open PySem PySem.Spec L2
open PyProof.Rows (envOfC)
section
variable {X : Cx} {B : Bg} {Γ : List Sl} {D : Dn} {st : Stmt} {rest a b body : List Stmt} {e c e1 e2 o i : Expr} {es : List Expr} {pos p1 : Pos} {k : Sl → Prop}

theorem ifT {c : Bool} {U V : Prop} (h : c = true) (q : U) : if c = true then U else V := by rw [if_pos h]; exact q
theorem ifF {c : Bool} {U V : Prop} (h : c = false) (q : V) : if c = true then U else V := by rw [if_neg (by rw [h]; decide)]; exact q
theorem ifB {c : Bool} {U V : Prop} (h1 : c = true → U) (h2 : c = false → V) : if c = true then U else V := by
  cases h : c with
  | true => exact ifT rfl (h1 h)
  | false => exact ifF rfl (h2 h)
theorem ifD {p : Prop} [Decidable p] {U V : Prop} (h1 : p → U) (h2 : ¬ p → V) : if decide p = true then U else V := by
  by_cases h : p
  · exact ifT (decide_eq_true h) (h1 h)
  · exact ifF (decide_eq_false h) (h2 h)
/-! ### subscripts -/
theorem atI_dp {K : PySem.W.Frag} {G : Hp} {xs : List V} {ds : List PyData} {i : Int} {d : PyData} (ha : DpAll K G xs ds) (h : atI ds i = some d) : ∃ v, atI xs i = some v ∧ Dp K G v d := by
  unfold atI at h ⊢
  rw [DpAll.length ha]
  cases e : ixN ds.length i with
  | none => rw [e] at h; cases h
  | some j =>
    rw [e] at h
    have h' : ds[j]? = some d := h
    obtain ⟨v, hv, q⟩ := DpAll.get' ha h'
    exact ⟨v, hv, q⟩
theorem ee_ixL (h : EvL X B o Γ fun ds => EvE X B i Γ (Sl.int fun j => ∃ d, atI ds j = some d ∧ k (.d d))) (hs : PlainIx i := by intro _ _; rfl) : EvE X B (.Subscript o i pos) Γ k :=
  ⟨fun σ G H Q ok en cont => tE_of (pe_ix ix_list pe_self pe_self hs) (h.run σ G H _ ok en fun p xs G1 G' H' ds g e1 o1 sq da q1 => q1.run σ G' H' _ g.ok (en.grow g) fun w G2 H2 r2 g2 re2 k2 => by
    obtain ⟨j, rfl, d, hd, q2⟩ := int_inv re2 k2
    obtain ⟨v, hv, dv⟩ := atI_dp da hd
    exact ⟨p, xs, j, v, rfl, rfl, sqL_ext (g2.keep o1) sq, hv, cont v G2 H2 _ (g.trans g2) (Res.dat (Dp.ext g2.g _ _ dv)) q2⟩)⟩
theorem ee_ixT (h : EvE X B o Γ (Sl.tup fun ds => EvE X B i Γ (Sl.int fun j => ∃ d, atI ds j = some d ∧ k (.d d)))) (hs : PlainIx i := by intro _ _; rfl) : EvE X B (.Subscript o i pos) Γ k :=
  ⟨fun σ G H Q ok en cont => tE_of (pe_ix ix_tup pe_self pe_self hs) (h.run σ G H _ ok en fun v G1 H1 r g re kr => by
    obtain ⟨p, xs, ds, rfl, sq, da, q1⟩ := tup_inv re kr
    refine q1.run σ G1 H1 _ g.ok (en.grow g) fun w G2 H2 r2 g2 re2 k2 => ?_
    obtain ⟨j, rfl, d, hd, q2⟩ := int_inv re2 k2
    obtain ⟨v, hv, dv⟩ := atI_dp da hd
    exact ⟨p, xs, j, v, rfl, rfl, SqT.ext (g2.g.trans g2.ok.ex) sq, hv, cont v G2 H2 _ (g.trans g2) (Res.dat (Dp.ext g2.g _ _ dv)) q2⟩)⟩
/-! slices -/
def tO (X : Cx) (e : Option Expr) : TO := fun σ H Q => ∀ (pins : List (Addr × Obj)) (s : Shared), Inv X pins σ H s → wpAny (model X.prog X.w) X.A (evalPart e X.env) (fun u s' => ∃ o H', Inv X pins σ H' s' ∧ IsPart u o ∧ Q o H') X.xe s
theorem po_self {e : Option Expr} : PO X e (tO X e) := ⟨fun pins s σ H Q I h => h pins s I⟩
structure EvO (X : Cx) (B : Bg) (e : Option Expr) (Γ : List Sl) (k : Option Int → Prop) : Prop where
  run : ∀ (σ : L2.St) (G H : Hp) (Q : Option Int → Hp → Prop), Ok B G H → EnvOk X.K B G H σ Γ → (∀ i G' H', Grow B G H G' H' → k i → Q i H') → tO X e σ H Q
theorem eo_none {f : Option Int → Prop} (q : f none) : EvO X B none Γ f := ⟨fun σ G H Q o en cont pins s I => po_none.run pins s σ H Q I (cont none G H (Grow.refl o) q)⟩
theorem eo_some {f : Option Int → Prop} (h : EvE X B e Γ (Sl.int fun i => f (some i))) : EvO X B (some e) Γ f := ⟨fun σ G H Q o en cont pins s I => (po_some pe_self).run pins s σ H Q I (h.run σ G H _ o en fun v G1 H1 r g re kr => by
  obtain ⟨i, ei, q⟩ := int_inv re kr
  exact ⟨i, ei, cont _ G1 H1 g q⟩)⟩
def cutD (xs : List PyData) (lo hi : Option Int) : List PyData := (xs.drop (HT.sIx xs.length 0 lo)).take (HT.sIx xs.length xs.length hi - HT.sIx xs.length 0 lo)
theorem cutD_from (xs : List PyData) (k : Nat) : cutD xs (some (k : Int)) none = xs.drop k := by
  unfold cutD
  rw [HT.sIx_nat, HT.sIx_none]
  by_cases h : k ≤ xs.length
  · rw [Nat.min_eq_left h, ← List.length_drop, List.take_length]
  · rw [Nat.min_eq_right (by omega), List.drop_length, List.take_nil, List.drop_eq_nil_of_le (by omega)]
theorem cutD_to (xs : List PyData) (k : Nat) : cutD xs none (some (k : Int)) = xs.take k := by
  unfold cutD
  rw [HT.sIx_nat, HT.sIx_none, List.drop_zero, Nat.sub_zero]
  by_cases h : k ≤ xs.length
  · rw [Nat.min_eq_left h]
  · rw [Nat.min_eq_right (by omega), List.take_length, List.take_of_length_le (by omega)]
theorem cut_dp {K : PySem.W.Frag} {G : Hp} {xs : List V} {ds : List PyData} {lo hi : Option Int} (ha : DpAll K G xs ds) : DpAll K G (cutV xs lo hi) (cutD ds lo hi) := by
  unfold cutV cutD
  rw [DpAll.length ha]
  exact DpAll.take _ (DpAll.drop _ ha)
theorem ee_slL {lo hi : Option Expr} {p2 : Pos} (h : EvL X B e Γ fun ds => EvO X B lo Γ fun l => EvO X B hi Γ fun u => k (.ol (cutD ds l u))) : EvE X B (.Subscript e (.Slice lo hi none p2) pos) Γ k :=
  ⟨fun σ G H Q ok en cont => tE_of (pe_slice sl_list pe_self po_self po_self) (h.run σ G H _ ok en fun p xs G1 G' H' ds g e1 o1 sq da q1 => q1.run σ G' H' _ g.ok (en.grow g) fun l G2 H2 g2 k2 => k2.run σ G2 H2 _ g2.ok ((en.grow g).grow g2) fun u G3 H3 g3 k3 => by
    refine ⟨p, xs, rfl, sqL_ext ((g2.trans g3).keep o1) sq, fun q hq => ?_⟩
    have g03 := (g.trans g2).trans g3
    exact cont _ G3 _ (.ol (cutD ds l u)) (g03.trans (Grow.newOwn g3.ok hq _)) ⟨⟨q, _, rfl, g3.ok.notfree hq, g3.ok.ex.free hq, upd_same, cut_dp (DpAll.ext (g2.g.trans g3.g) _ _ da)⟩, fun _ p e => by cases e; exact g03.free hq⟩ k3)⟩
theorem ee_slT {lo hi : Option Expr} {p2 : Pos} (h : EvE X B e Γ (Sl.tup fun ds => EvO X B lo Γ fun l => EvO X B hi Γ fun u => k (.d (.tuple (cutD ds l u))))) : EvE X B (.Subscript e (.Slice lo hi none p2) pos) Γ k :=
  ⟨fun σ G H Q ok en cont => tE_of (pe_slice sl_tupA pe_self po_self po_self) (h.run σ G H _ ok en fun v G1 H1 r g re kr => by
    obtain ⟨p, xs, ds, rfl, sq, da, q1⟩ := tup_inv re kr
    refine q1.run σ G1 H1 _ g.ok (en.grow g) fun l G2 H2 g2 k2 => k2.run σ G2 H2 _ g2.ok ((en.grow g).grow g2) fun u G3 H3 g3 k3 => ?_
    have g03 := (g.trans g2).trans g3
    have e3 := g2.g.trans g3.g
    have hl := DpAll.length da
    refine ⟨p, xs, rfl, SqT.ext (e3.trans g3.ok.ex) sq, fun hw => ?_, fun hw q hq => ?_⟩
    · refine cont _ G3 H3 _ g03 (Res.dat (.tup (SqT.ext e3 sq) ?_)) k3
      have : cutD ds l u = ds := by
        unfold cutD
        rw [← hl, hw.1, hw.2, List.drop_zero, Nat.sub_zero, hl, List.take_length]
      rw [this]
      exact DpAll.ext e3 _ _ da
    · have gn := Grow.new g3.ok hq (.tup (cutV xs l u))
      exact cont _ _ _ _ (g03.trans gn) (Res.dat (.tup (SqT.of upd_same) (cut_dp (DpAll.ext (e3.trans gn.g) _ _ da)))) k3)⟩
/-- t + u -/
theorem ee_catT (h : EvE X B e1 Γ (Sl.tup fun xs => EvE X B e2 Γ (Sl.tup fun ys => xs.length + ys.length ≤ 1000000 ∧ k (.d (.tuple (xs ++ ys)))))) : EvE X B (.BinOp e1 .Add e2 pos) Γ k :=
  ee_bop op_catA ⟨fun σ G H Q ok en cont => h.run σ G H _ ok en fun v G1 H1 r g re kr => by
    obtain ⟨p, xs, ds, rfl, sq, da, q1⟩ := tup_inv re kr
    refine q1.run σ G1 H1 _ g.ok (en.grow g) fun w G2 H2 r2 g2 re2 k2 => ?_
    obtain ⟨q, ys, es, rfl, sq2, da2, hlen, q2⟩ := tup_inv re2 k2
    have e2 := g2.g.trans g2.ok.ex
    have g02 := g.trans g2
    refine ⟨p, q, xs, ys, rfl, rfl, SqT.ext e2 sq, SqT.ext g2.ok.ex sq2, by rw [DpAll.length da, DpAll.length da2]; exact Nat.le_trans hlen (by decide), fun h0 => ?_, fun _ h0 => ?_, fun _ _ z hz => ?_⟩
    · subst h0
      cases da
      exact cont _ G2 H2 _ g02 (Res.dat (.tup sq2 da2)) q2
    · subst h0
      cases da2
      rw [List.append_nil] at q2
      exact cont _ G2 H2 _ g02 (Res.dat (.tup (SqT.ext g2.g sq) (DpAll.ext g2.g _ _ da))) q2
    · have gn := Grow.new g2.ok hz (.tup (xs ++ ys))
      exact cont _ _ _ _ (g02.trans gn) (Res.dat (.tup (SqT.of upd_same) (DpAll.append (DpAll.ext (g2.g.trans gn.g) _ _ da) (DpAll.ext gn.g _ _ da2)))) q2⟩

/-! ### calls of built-ins -/
theorem ee_cb1 {x : Str} {id : String} {r : List V → Hp → VK → Prop} (hc : CallR X (.builtin id) r) (hm : X.mg x = none) (hv : bootBuiltins x = some (.builtin id))
    (h : ∀ (σ : L2.St) (G H : Hp) (Q : VK), Ok B G H → EnvOk X.K B G H σ Γ → (∀ v G' H' r, Grow B G H G' H' → Res X.K B H G' H' v r → k r → Q v H') → tE X e σ H fun y H1 => r [y] H1 Q)
    (hn : x ≠ "__name__" := by decide) (hdb : (x == ("__debug__" : Str)) = false := by decide) (hg : Gl X x := by rfl) (he : starEach [e] X.env = (false, eval e X.env) :: starEach [] X.env := by rfl) (hpl : (backTo pos (starEach [] X.env)).any (·.1) = false := by rfl) : EvE X B (.Call (.Name x p1) [e] [] pos) Γ k :=
  ⟨fun σ G H Q ok en cont => tE_of (pe_callB hc hg hm hv (pa_cons pe_self pa_nil he) hn hdb he hpl) (h σ G H Q ok en cont)⟩
theorem ee_ct1 {x : Str} {T : String} {r : List V → Hp → VK → Prop} (hc : CallR X (.type T) r) (hm : X.mg x = none) (hv : bootBuiltins x = some (.type T))
    (h : ∀ (σ : L2.St) (G H : Hp) (Q : VK), Ok B G H → EnvOk X.K B G H σ Γ → (∀ v G' H' r, Grow B G H G' H' → Res X.K B H G' H' v r → k r → Q v H') → tE X e σ H fun y H1 => r [y] H1 Q)
    (hn : x ≠ "__name__" := by decide) (hdb : (x == ("__debug__" : Str)) = false := by decide) (hg : Gl X x := by rfl) (he : starEach [e] X.env = (false, eval e X.env) :: starEach [] X.env := by rfl) (hpl : (backTo pos (starEach [] X.env)).any (·.1) = false := by rfl) : EvE X B (.Call (.Name x p1) [e] [] pos) Γ k :=
  ⟨fun σ G H Q ok en cont => tE_of (pe_callTy hc hg hm hv (pa_cons pe_self pa_nil he) hn hdb he hpl) (h σ G H Q ok en cont)⟩
theorem ee_cb2 {x : Str} {id : String} {r : List V → Hp → VK → Prop} (hc : CallR X (.builtin id) r) (hm : X.mg x = none) (hv : bootBuiltins x = some (.builtin id))
    (h : ∀ (σ : L2.St) (G H : Hp) (Q : VK), Ok B G H → EnvOk X.K B G H σ Γ → (∀ v G' H' r, Grow B G H G' H' → Res X.K B H G' H' v r → k r → Q v H') → tE X e1 σ H fun y H1 => tE X e2 σ H1 fun z H2 => r [y, z] H2 Q)
    (hn : x ≠ "__name__" := by decide) (hdb : (x == ("__debug__" : Str)) = false := by decide) (hg : Gl X x := by rfl) (he : starEach [e1, e2] X.env = (false, eval e1 X.env) :: starEach [e2] X.env := by rfl) (he2 : starEach [e2] X.env = (false, eval e2 X.env) :: starEach [] X.env := by rfl) (hpl : (backTo pos (starEach [e2] X.env)).any (·.1) = false := by rfl) :
    EvE X B (.Call (.Name x p1) [e1, e2] [] pos) Γ k :=
  ⟨fun σ G H Q ok en cont => tE_of (pe_callB hc hg hm hv (pa_cons pe_self (pa_cons pe_self pa_nil he2) he) hn hdb he hpl) (h σ G H Q ok en cont)⟩
theorem lenL_run {f : List PyData → Prop} (h : EvL X B e Γ f) : True := trivial
theorem ee_lenL (hm : X.mg "len" = none) (h : EvL X B e Γ fun ds => k (.d (.int (ds.length : Int)))) (hg : Gl X "len" := by rfl) (he : starEach [e] X.env = (false, eval e X.env) :: starEach [] X.env := by rfl) (hpl : (backTo pos (starEach [] X.env)).any (·.1) = false := by rfl) : EvE X B (.Call (.Name "len" p1) [e] [] pos) Γ k :=
  ee_cb1 call_len_seq hm boot_len (fun σ G H Q ok en cont => h.run σ G H _ ok en fun p xs G1 G' H' ds g e1 o1 sq da q => ⟨p, xs, rfl, .inl (sqL_ext o1.ex sq), by
    rw [DpAll.length da]
    exact cont _ G' H' _ g (Res.dat (.int _)) q⟩) (by decide) (by decide) hg he hpl
theorem ee_lenT (hm : X.mg "len" = none) (h : EvE X B e Γ (Sl.tup fun ds => k (.d (.int (ds.length : Int))))) (hg : Gl X "len" := by rfl) (he : starEach [e] X.env = (false, eval e X.env) :: starEach [] X.env := by rfl) (hpl : (backTo pos (starEach [] X.env)).any (·.1) = false := by rfl) : EvE X B (.Call (.Name "len" p1) [e] [] pos) Γ k :=
  ee_cb1 call_len_seq hm boot_len (fun σ G H Q ok en cont => h.run σ G H _ ok en fun v G1 H1 r g re kr => by
    obtain ⟨p, xs, ds, rfl, sq, da, q⟩ := tup_inv re kr
    exact ⟨p, xs, rfl, .inr (SqT.ext g.ok.ex sq), by
      rw [DpAll.length da]
      exact cont _ G1 H1 _ g (Res.dat (.int _)) q⟩) (by decide) (by decide) hg he hpl
theorem boot_abs : bootBuiltins ("abs" : Str) = some (.builtin "abs") := by decide +kernel
theorem boot_all : bootBuiltins ("all" : Str) = some (.builtin "all") := by decide +kernel
theorem boot_min : bootBuiltins ("min" : Str) = some (.builtin "min") := by decide +kernel
theorem boot_max : bootBuiltins ("max" : Str) = some (.builtin "max") := by decide +kernel
theorem boot_sum : bootBuiltins ("sum" : Str) = some (.builtin "sum") := by decide +kernel
theorem boot_sorted : bootBuiltins ("sorted" : Str) = some (.builtin "sorted") := by decide +kernel
theorem boot_isinstance : bootBuiltins ("isinstance" : Str) = some (.builtin "isinstance") := by decide +kernel
theorem boot_int : bootBuiltins ("int" : Str) = some (.type "int") := by decide +kernel
theorem boot_bool : bootBuiltins ("bool" : Str) = some (.type "bool") := by decide +kernel
theorem boot_str : bootBuiltins ("str" : Str) = some (.type "str") := by decide +kernel
theorem boot_list : bootBuiltins ("list" : Str) = some (.type "list") := by decide +kernel
theorem boot_tuple : bootBuiltins ("tuple" : Str) = some (.type "tuple") := by decide +kernel
theorem ee_abs (hm : X.mg "abs" = none) (h : EvE X B e Γ (Sl.int fun i => k (.d (.int (if i < 0 then -i else i))))) (hg : Gl X "abs" := by rfl) (he : starEach [e] X.env = (false, eval e X.env) :: starEach [] X.env := by rfl) (hpl : (backTo pos (starEach [] X.env)).any (·.1) = false := by rfl) : EvE X B (.Call (.Name "abs" p1) [e] [] pos) Γ k :=
  ee_cb1 call_abs hm boot_abs (fun σ G H Q ok en cont => h.run σ G H _ ok en fun v G1 H1 r g re kr => by
    obtain ⟨i, rfl, q⟩ := int_inv re kr
    exact ⟨i, rfl, cont _ G1 H1 _ g (Res.dat (.int _)) q⟩) (by decide) (by decide) hg he hpl
theorem ee_max2 (hm : X.mg "max" = none) (hc : X.calm = true) (h : EvE X B e1 Γ (Sl.int fun i => EvE X B e2 Γ (Sl.int fun j => k (.d (.int (if j > i then j else i)))))) (hg : Gl X "max" := by rfl) (he : starEach [e1, e2] X.env = (false, eval e1 X.env) :: starEach [e2] X.env := by rfl) (he2 : starEach [e2] X.env = (false, eval e2 X.env) :: starEach [] X.env := by rfl) (hpl : (backTo pos (starEach [e2] X.env)).any (·.1) = false := by rfl) : EvE X B (.Call (.Name "max" p1) [e1, e2] [] pos) Γ k :=
  ee_cb2 (call_max2 hc) hm boot_max (fun σ G H Q ok en cont => h.run σ G H _ ok en fun v G1 H1 r g re kr => by
    obtain ⟨i, rfl, q⟩ := int_inv re kr
    refine q.run σ G1 H1 _ g.ok (en.grow g) fun w G2 H2 r2 g2 re2 k2 => ?_
    obtain ⟨j, rfl, q2⟩ := int_inv re2 k2
    exact ⟨i, j, rfl, cont _ G2 H2 _ (g.trans g2) (Res.dat (.int _)) q2⟩) (by decide) (by decide) hg he he2 hpl
theorem ee_min2 (hm : X.mg "min" = none) (hc : X.calm = true) (h : EvE X B e1 Γ (Sl.int fun i => EvE X B e2 Γ (Sl.int fun j => k (.d (.int (if j < i then j else i)))))) (hg : Gl X "min" := by rfl) (he : starEach [e1, e2] X.env = (false, eval e1 X.env) :: starEach [e2] X.env := by rfl) (he2 : starEach [e2] X.env = (false, eval e2 X.env) :: starEach [] X.env := by rfl) (hpl : (backTo pos (starEach [e2] X.env)).any (·.1) = false := by rfl) : EvE X B (.Call (.Name "min" p1) [e1, e2] [] pos) Γ k :=
  ee_cb2 (call_min2 hc) hm boot_min (fun σ G H Q ok en cont => h.run σ G H _ ok en fun v G1 H1 r g re kr => by
    obtain ⟨i, rfl, q⟩ := int_inv re kr
    refine q.run σ G1 H1 _ g.ok (en.grow g) fun w G2 H2 r2 g2 re2 k2 => ?_
    obtain ⟨j, rfl, q2⟩ := int_inv re2 k2
    exact ⟨i, j, rfl, cont _ G2 H2 _ (g.trans g2) (Res.dat (.int _)) q2⟩) (by decide) (by decide) hg he he2 hpl
/-- int(a truth) -/
theorem ee_intB (hm : X.mg "int" = none) (h : EvE X B e Γ (Sl.bl fun i => k (.d (.int (if i then 1 else 0))))) (hg : Gl X "int" := by rfl) (he : starEach [e] X.env = (false, eval e X.env) :: starEach [] X.env := by rfl) (hpl : (backTo pos (starEach [] X.env)).any (·.1) = false := by rfl) : EvE X B (.Call (.Name "int" p1) [e] [] pos) Γ k :=
  ee_ct1 call_int1 hm boot_int (fun σ G H Q ok en cont => h.run σ G H _ ok en fun v G1 H1 r g re kr => by
    obtain ⟨i, rfl, q⟩ := bl_inv re kr
    exact .inr ⟨i, rfl, cont _ G1 H1 _ g (Res.dat (.int _)) q⟩) (by decide) (by decide) hg he hpl
theorem ee_intI (hm : X.mg "int" = none) (h : EvE X B e Γ (Sl.int fun i => k (.d (.int i)))) (hg : Gl X "int" := by rfl) (he : starEach [e] X.env = (false, eval e X.env) :: starEach [] X.env := by rfl) (hpl : (backTo pos (starEach [] X.env)).any (·.1) = false := by rfl) : EvE X B (.Call (.Name "int" p1) [e] [] pos) Γ k :=
  ee_ct1 call_int1 hm boot_int (fun σ G H Q ok en cont => h.run σ G H _ ok en fun v G1 H1 r g re kr => by
    obtain ⟨i, rfl, q⟩ := int_inv re kr
    exact .inl ⟨i, rfl, cont _ G1 H1 _ g (Res.dat (.int _)) q⟩) (by decide) (by decide) hg he hpl
theorem ee_sum (hm : X.mg "sum" = none) (hc : X.calm = true) (h : EvL X B e Γ fun ds => ∃ ns : List Int, ds = ns.map .int ∧ k (.d (.int ns.sum))) (hg : Gl X "sum" := by rfl) (he : starEach [e] X.env = (false, eval e X.env) :: starEach [] X.env := by rfl) (hpl : (backTo pos (starEach [] X.env)).any (·.1) = false := by rfl) : EvE X B (.Call (.Name "sum" p1) [e] [] pos) Γ k :=
  ee_cb1 (cr_sum hc) hm boot_sum (fun σ G H Q ok en cont => h.run σ G H _ ok en fun p xs G1 G' H' ds g e1 o1 sq da ⟨ns, ed, q⟩ => by
    subst ed
    rw [DpAll.ints_inv da] at sq
    exact ⟨p, ns, rfl, sqL_ext o1.ex sq, cont _ G' H' _ g (Res.dat (.int _)) q⟩) (by decide) (by decide) hg he hpl
theorem ee_all (hm : X.mg "all" = none) (hc : X.calm = true) (h : EvL X B e Γ fun ds => ∃ ns : List Bool, ds = ns.map .bool ∧ k (.d (.bool (ns.all id)))) (hg : Gl X "all" := by rfl) (he : starEach [e] X.env = (false, eval e X.env) :: starEach [] X.env := by rfl) (hpl : (backTo pos (starEach [] X.env)).any (·.1) = false := by rfl) : EvE X B (.Call (.Name "all" p1) [e] [] pos) Γ k :=
  ee_cb1 (cr_all hc) hm boot_all (fun σ G H Q ok en cont => h.run σ G H _ ok en fun p xs G1 G' H' ds g e1 o1 sq da ⟨ns, ed, q⟩ => by
    subst ed
    rw [DpAll.bls_inv da] at sq
    exact ⟨p, ns, rfl, sqL_ext o1.ex sq, cont _ G' H' _ g (Res.dat (.bl _)) q⟩) (by decide) (by decide) hg he hpl
theorem ee_minL (hm : X.mg "min" = none) (hc : X.calm = true) (h : EvL X B e Γ fun ds => ∃ ns : List Int, ds = ns.map .int ∧ 0 < ns.length ∧ ∀ m, m ∈ ns → (∀ y, y ∈ ns → m ≤ y) → k (.d (.int m))) (hg : Gl X "min" := by rfl) (he : starEach [e] X.env = (false, eval e X.env) :: starEach [] X.env := by rfl) (hpl : (backTo pos (starEach [] X.env)).any (·.1) = false := by rfl) : EvE X B (.Call (.Name "min" p1) [e] [] pos) Γ k :=
  ee_cb1 (cr_min hc) hm boot_min (fun σ G H Q ok en cont => h.run σ G H _ ok en fun p xs G1 G' H' ds g e1 o1 sq da ⟨ns, ed, hl, q⟩ => by
    subst ed
    rw [DpAll.ints_inv da] at sq
    exact ⟨p, ns, rfl, sqL_ext o1.ex sq, hl, fun m h1 h2 => cont _ G' H' _ g (Res.dat (.int _)) (q m h1 h2)⟩) (by decide) (by decide) hg he hpl
theorem ee_sortedI (hm : X.mg "sorted" = none) (h : EvL X B e Γ fun ds => ∃ ns : List Int, ds = ns.map .int ∧ ∀ ms : List Int, ms.Perm ns → ms.Pairwise (· ≤ ·) → k (.ol (ms.map .int))) (hg : Gl X "sorted" := by rfl) (he : starEach [e] X.env = (false, eval e X.env) :: starEach [] X.env := by rfl) (hpl : (backTo pos (starEach [] X.env)).any (·.1) = false := by rfl) : EvE X B (.Call (.Name "sorted" p1) [e] [] pos) Γ k :=
  ee_cb1 cr_sortedI hm boot_sorted (fun σ G H Q ok en cont => h.run σ G H _ ok en fun p xs G1 G' H' ds g e1 o1 sq da ⟨ns, ed, q⟩ => by
    subst ed
    rw [DpAll.ints_inv da] at sq
    refine ⟨p, ns, rfl, sqL_ext o1.ex sq, fun ms z hp hs hz => ?_⟩
    exact cont _ G' _ (.ol (ms.map .int)) (g.trans (Grow.newOwn g.ok hz _)) ⟨⟨z, _, rfl, g.ok.notfree hz, g.ok.ex.free hz, upd_same, DpAll.ints ms⟩, fun _ p e => by cases e; exact g.free hz⟩ (q ms hp hs)) (by decide) (by decide) hg he hpl
/-- tuple(a list) -/
theorem ee_tupleL (hm : X.mg "tuple" = none) (h : EvL X B e Γ fun ds => k (.d (.tuple ds))) (hg : Gl X "tuple" := by rfl) (he : starEach [e] X.env = (false, eval e X.env) :: starEach [] X.env := by rfl) : EvE X B (.Call (.Name "tuple" p1) [e] [] pos) Γ k :=
  ⟨fun σ G H Q ok en cont => tE_of (pe_tupleOf hg hm pe_self he) (h.run σ G H _ ok en fun p xs G1 G' H' ds g e1 o1 sq da q => .inl ⟨p, xs, rfl, sqL_ext o1.ex sq, fun z hz => by
    have gn := Grow.new g.ok hz (.tup xs)
    exact cont _ _ _ _ (g.trans gn) (Res.dat (.tup (SqT.of upd_same) (DpAll.ext gn.g _ _ da))) q⟩)⟩
theorem ee_tupleT (hm : X.mg "tuple" = none) (h : EvE X B e Γ (Sl.tup fun ds => k (.d (.tuple ds)))) (hg : Gl X "tuple" := by rfl) (he : starEach [e] X.env = (false, eval e X.env) :: starEach [] X.env := by rfl) : EvE X B (.Call (.Name "tuple" p1) [e] [] pos) Γ k :=
  ⟨fun σ G H Q ok en cont => tE_of (pe_tupleOf hg hm pe_self he) (h.run σ G H _ ok en fun v G1 H1 r g re kr => by
    obtain ⟨p, xs, ds, rfl, sq, da, q⟩ := tup_inv re kr
    exact .inr ⟨p, xs, rfl, SqT.ext g.ok.ex sq, cont _ G1 H1 _ g (Res.dat (.tup sq da)) q⟩)⟩
theorem rgV_dp {K : PySem.W.Frag} {G : Hp} (a b : Int) : DpAll K G (rgV a b) (rg a (b - a).toNat) := by
  unfold rgV rg
  generalize List.range (b - a).toNat = l
  induction l with
  | nil => exact .nil
  | cons i r ih => exact .cons (.int _) ih
theorem ee_tupRg1 {p3 p4 : Pos} (hm : X.mg "tuple" = none) (hm2 : X.mg "range" = none) (hc : X.calm = true) (h : EvE X B e Γ (Sl.int fun n => 0 ≤ n ∧ n ≤ 16777216 ∧ k (.d (.tuple (rg 0 n.toNat))))) (hg : Gl X "tuple" := by rfl) (hg2 : Gl X "range" := by rfl) (na : starEach [e] X.env = (false, eval e X.env) :: starEach [] X.env := by rfl)
    (na2 : starEach [.Call (.Name "range" p3) [e] [] p4] X.env = (false, eval (.Call (.Name "range" p3) [e] [] p4) X.env) :: starEach [] X.env := by rfl) : EvE X B (.Call (.Name "tuple" p1) [.Call (.Name "range" p3) [e] [] p4] [] pos) Γ k :=
  ⟨fun σ G H Q ok en cont => tE_of (pe_tupRg hc hg hm (prg_1 hg2 hm2 pe_self na) na2) (h.run σ G H _ ok en fun v G1 H1 r g re kr => by
    obtain ⟨n, rfl, h0, h1, q⟩ := int_inv re kr
    refine ⟨n, rfl, RgOk.of_le (by decide) h1 (by decide) h0, fun z hz => ?_⟩
    have gn := Grow.new g.ok hz (.tup (rgV 0 n))
    have e0 : (n - 0).toNat = n.toNat := by rw [Int.sub_zero]
    exact cont _ _ _ _ (g.trans gn) (Res.dat (.tup (SqT.of upd_same) (e0 ▸ rgV_dp 0 n))) q)⟩

/-! isinstance -/
/-- the class's name of data -/
def tyN : PyData → String
  | .none => "NoneType"
  | .bool _ => "bool"
  | .int _ => "int"
  | .str _ => "str"
  | .list _ => "list"
  | .tuple _ => "tuple"
  | .dict _ => "dict"
theorem rd_lst {K : PySem.W.Frag} {H : Hp} {a : Addr} {xs : List V} (h : SqL K H a xs) : TyX K H (.ref a) (.type "list") := .base (.lst h)
theorem rd_tup {K : PySem.W.Frag} {H : Hp} {a : Addr} {xs : List V} (h : SqT K H a xs) : TyX K H (.ref a) (.type "tuple") := .base (.tup h)
theorem ty_of {K : PySem.W.Frag} {H : Hp} {v : V} {d : PyData} (h : Dp K H v d) : TyX K H v (.type (tyN d)) := by
  cases h with
  | non => exact .base .non
  | bl b => exact .base (.bl b)
  | int i => exact .base (.int i)
  | str x => exact .base (.str x)
  | lst hs _ => exact rd_lst hs
  | tup hs _ => exact rd_tup hs
theorem ee_isi {T : Str} {t : String} {p3 : Pos} (r : PyData → Bool) (hm : X.mg "isinstance" = none) (hmT : X.mg T = none) (hvT : bootBuiltins T = some (.type t)) (hr : ∀ d, d ≠ .dict [] → kitB (tyN d) t = some (r d)) (hnT : T ≠ "__name__") (hdT : (T == ("__debug__" : Str)) = false)
    (h : EvV X B e Γ fun d => k (.d (.bool (r d)))) (hg : Gl X "isinstance" := by rfl) (hgT : Gl X T := by rfl) (he : starEach [e, .Name T p3] X.env = (false, eval e X.env) :: starEach [.Name T p3] X.env := by rfl) (he2 : starEach [.Name T p3] X.env = (false, eval (.Name T p3) X.env) :: starEach [] X.env := by rfl) (hpl : (backTo pos (starEach [.Name T p3] X.env)).any (·.1) = false := by rfl) :
    EvE X B (.Call (.Name "isinstance" p1) [e, .Name T p3] [] pos) Γ k :=
  ee_cb2 call_isi hm boot_isinstance (fun σ G H Q ok en cont => h.run σ G H _ ok en fun v G1 G' H' d g e1 o1 dp q => tE_of (pe_bltn (v := .ty t) hgT hmT hvT rfl hnT hdT) (show rIsi X.K [v, .ty t] H' Q from
    ⟨v, .ty t, .type (tyN d), .type t, r d, rfl, .ty t, ty_of (Dp.ext o1.ex _ _ dp), kit_ty (hr d (by rintro rfl; cases dp)), cont _ G' H' _ g (Res.dat (.bl _)) q⟩)) (by decide) (by decide) hg he he2 hpl
def isInt : PyData → Bool
  | .int _ => true
  | .bool _ => true
  | _ => false
def isBool : PyData → Bool
  | .bool _ => true
  | _ => false
def isTup : PyData → Bool
  | .tuple _ => true
  | _ => false
def isLst : PyData → Bool
  | .list _ => true
  | _ => false
def isStr : PyData → Bool
  | .str _ => true
  | _ => false
theorem kit_int (d : PyData) : kitB (tyN d) "int" = some (isInt d) := by
  cases d with
  | none => exact (show kitB "NoneType" "int" = some false from by decide +kernel)
  | bool _ => exact (show kitB "bool" "int" = some true from by decide +kernel)
  | int _ => exact (show kitB "int" "int" = some true from by decide +kernel)
  | str _ => exact (show kitB "str" "int" = some false from by decide +kernel)
  | list _ => exact (show kitB "list" "int" = some false from by decide +kernel)
  | tuple _ => exact (show kitB "tuple" "int" = some false from by decide +kernel)
  | dict _ => exact (show kitB "dict" "int" = some false from by decide +kernel)
theorem kit_bool (d : PyData) : kitB (tyN d) "bool" = some (isBool d) := by
  cases d with
  | none => exact (show kitB "NoneType" "bool" = some false from by decide +kernel)
  | bool _ => exact (show kitB "bool" "bool" = some true from by decide +kernel)
  | int _ => exact (show kitB "int" "bool" = some false from by decide +kernel)
  | str _ => exact (show kitB "str" "bool" = some false from by decide +kernel)
  | list _ => exact (show kitB "list" "bool" = some false from by decide +kernel)
  | tuple _ => exact (show kitB "tuple" "bool" = some false from by decide +kernel)
  | dict _ => exact (show kitB "dict" "bool" = some false from by decide +kernel)
theorem kit_tup (d : PyData) : kitB (tyN d) "tuple" = some (isTup d) := by
  cases d with
  | none => exact (show kitB "NoneType" "tuple" = some false from by decide +kernel)
  | bool _ => exact (show kitB "bool" "tuple" = some false from by decide +kernel)
  | int _ => exact (show kitB "int" "tuple" = some false from by decide +kernel)
  | str _ => exact (show kitB "str" "tuple" = some false from by decide +kernel)
  | list _ => exact (show kitB "list" "tuple" = some false from by decide +kernel)
  | tuple _ => exact (show kitB "tuple" "tuple" = some true from by decide +kernel)
  | dict _ => exact (show kitB "dict" "tuple" = some false from by decide +kernel)
theorem kit_lst (d : PyData) : kitB (tyN d) "list" = some (isLst d) := by
  cases d with
  | none => exact (show kitB "NoneType" "list" = some false from by decide +kernel)
  | bool _ => exact (show kitB "bool" "list" = some false from by decide +kernel)
  | int _ => exact (show kitB "int" "list" = some false from by decide +kernel)
  | str _ => exact (show kitB "str" "list" = some false from by decide +kernel)
  | list _ => exact (show kitB "list" "list" = some true from by decide +kernel)
  | tuple _ => exact (show kitB "tuple" "list" = some false from by decide +kernel)
  | dict _ => exact (show kitB "dict" "list" = some false from by decide +kernel)
theorem kit_str (d : PyData) : kitB (tyN d) "str" = some (isStr d) := by
  cases d with
  | none => exact (show kitB "NoneType" "str" = some false from by decide +kernel)
  | bool _ => exact (show kitB "bool" "str" = some false from by decide +kernel)
  | int _ => exact (show kitB "int" "str" = some false from by decide +kernel)
  | str _ => exact (show kitB "str" "str" = some true from by decide +kernel)
  | list _ => exact (show kitB "list" "str" = some false from by decide +kernel)
  | tuple _ => exact (show kitB "tuple" "str" = some false from by decide +kernel)
  | dict _ => exact (show kitB "dict" "str" = some false from by decide +kernel)
theorem ee_isInt {p3 : Pos} (hm : X.mg "isinstance" = none) (hmT : X.mg "int" = none) (h : EvV X B e Γ fun d => k (.d (.bool (isInt d)))) (hg : Gl X "isinstance" := by rfl) (hgT : Gl X "int" := by rfl) (he : starEach [e, .Name "int" p3] X.env = (false, eval e X.env) :: starEach [.Name "int" p3] X.env := by rfl) (he2 : starEach [.Name "int" p3] X.env = (false, eval (.Name "int" p3) X.env) :: starEach [] X.env := by rfl) (hpl : (backTo pos (starEach [.Name "int" p3] X.env)).any (·.1) = false := by rfl) :
    EvE X B (.Call (.Name "isinstance" p1) [e, .Name "int" p3] [] pos) Γ k := ee_isi isInt hm hmT boot_int (fun d _ => kit_int d) (by decide) (by decide) h hg hgT he he2 hpl
theorem ee_isBool {p3 : Pos} (hm : X.mg "isinstance" = none) (hmT : X.mg "bool" = none) (h : EvV X B e Γ fun d => k (.d (.bool (isBool d)))) (hg : Gl X "isinstance" := by rfl) (hgT : Gl X "bool" := by rfl) (he : starEach [e, .Name "bool" p3] X.env = (false, eval e X.env) :: starEach [.Name "bool" p3] X.env := by rfl) (he2 : starEach [.Name "bool" p3] X.env = (false, eval (.Name "bool" p3) X.env) :: starEach [] X.env := by rfl) (hpl : (backTo pos (starEach [.Name "bool" p3] X.env)).any (·.1) = false := by rfl) :
    EvE X B (.Call (.Name "isinstance" p1) [e, .Name "bool" p3] [] pos) Γ k := ee_isi isBool hm hmT boot_bool (fun d _ => kit_bool d) (by decide) (by decide) h hg hgT he he2 hpl
theorem ee_isTup {p3 : Pos} (hm : X.mg "isinstance" = none) (hmT : X.mg "tuple" = none) (h : EvV X B e Γ fun d => k (.d (.bool (isTup d)))) (hg : Gl X "isinstance" := by rfl) (hgT : Gl X "tuple" := by rfl) (he : starEach [e, .Name "tuple" p3] X.env = (false, eval e X.env) :: starEach [.Name "tuple" p3] X.env := by rfl) (he2 : starEach [.Name "tuple" p3] X.env = (false, eval (.Name "tuple" p3) X.env) :: starEach [] X.env := by rfl) (hpl : (backTo pos (starEach [.Name "tuple" p3] X.env)).any (·.1) = false := by rfl) :
    EvE X B (.Call (.Name "isinstance" p1) [e, .Name "tuple" p3] [] pos) Γ k := ee_isi isTup hm hmT boot_tuple (fun d _ => kit_tup d) (by decide) (by decide) h hg hgT he he2 hpl
theorem ee_isLst {p3 : Pos} (hm : X.mg "isinstance" = none) (hmT : X.mg "list" = none) (h : EvV X B e Γ fun d => k (.d (.bool (isLst d)))) (hg : Gl X "isinstance" := by rfl) (hgT : Gl X "list" := by rfl) (he : starEach [e, .Name "list" p3] X.env = (false, eval e X.env) :: starEach [.Name "list" p3] X.env := by rfl) (he2 : starEach [.Name "list" p3] X.env = (false, eval (.Name "list" p3) X.env) :: starEach [] X.env := by rfl) (hpl : (backTo pos (starEach [.Name "list" p3] X.env)).any (·.1) = false := by rfl) :
    EvE X B (.Call (.Name "isinstance" p1) [e, .Name "list" p3] [] pos) Γ k := ee_isi isLst hm hmT boot_list (fun d _ => kit_lst d) (by decide) (by decide) h hg hgT he he2 hpl
theorem ee_isStr {p3 : Pos} (hm : X.mg "isinstance" = none) (hmT : X.mg "str" = none) (h : EvV X B e Γ fun d => k (.d (.bool (isStr d)))) (hg : Gl X "isinstance" := by rfl) (hgT : Gl X "str" := by rfl) (he : starEach [e, .Name "str" p3] X.env = (false, eval e X.env) :: starEach [.Name "str" p3] X.env := by rfl) (he2 : starEach [.Name "str" p3] X.env = (false, eval (.Name "str" p3) X.env) :: starEach [] X.env := by rfl) (hpl : (backTo pos (starEach [.Name "str" p3] X.env)).any (·.1) = false := by rfl) :
    EvE X B (.Call (.Name "isinstance" p1) [e, .Name "str" p3] [] pos) Γ k := ee_isi isStr hm hmT boot_str (fun d _ => kit_str d) (by decide) (by decide) h hg hgT he he2 hpl

/-! ### own defs -/
/-- what a def does, on data: from the arguments, what is wanted of the answer -/
abbrev FS := List Sl → (Sl → Prop) → Prop
def SpA (K : PySem.W.Frag) (pre : FS) : Sp := fun vs H Q _ => ∃ B G rs k, B.tabs = lamTabs K ∧ Ok B G H ∧ ArgOk K B G H vs rs ∧ pre rs k ∧ ∀ v G' H' r, Grow B G H G' H' → Res K B H G' H' v r → k r → Q v H'
/-- a def of the text, by its name -/
def Df (K : PySem.W.Frag) (mg : Str → Option Value) (x : Str) (st : Stmt) (ps : List Str) : Prop := ∃ f fd, FunD K x x (defArgs st) (defBody st) (defScope st) [] [] f fd ∧ mg x = some (.ref f) ∧ Binds K fd ps []
/-- it keeps its promise -/
def Has (P : Program) (w : World) (K : PySem.W.Frag) (mg : Str → Option Value) (base : Heap) (n : Nat) (x : Str) (ps : List Str) (pre : FS) : Prop :=
  ∃ f fd, FnOk P w K mg base CX0 n f fd ps (SpA K pre) ∧ mg x = some (.ref f) ∧ PySem.W.keepIn K (.ref f) = true ∧ Binds K fd ps []
theorem ee_call {n k0 : Nat} {x : Str} {ps : List Str} {pre : FS} (F : Has X.prog X.w X.K X.mg X.base n x ps pre) (hr : Room k0 X.A) (h : EvA X B (e :: es) Γ fun rs => pre rs k) (hn : n ≤ k0 := by decide) (hg : Gl X x := by rfl)
    (hdb : (x == ("__debug__" : Str)) = false := by decide) (he : starEach (e :: es) X.env = (false, eval e X.env) :: starEach es X.env := by rfl) (hpl : (backTo pos (starEach es X.env)).any (·.1) = false := by rfl) : EvE X B (.Call (.Name x p1) (e :: es) [] pos) Γ k := by
  obtain ⟨f, fd, F, hm, hk, hb⟩ := F
  exact ⟨fun σ G H Q ok en cont => tE_of (pe_call F (hr.mono hn) hg hm hk hb .nil pass0 pa_self hdb he hpl) (h.run σ G H _ ok en fun vs G1 H1 rs g ao pr => by
    show SpA X.K pre (vs ++ []) H1 Q E0
    rw [List.append_nil]
    exact ⟨B, G1, rs, k, en.tt, g.ok, ao, pr, fun v G2 H2 r g2 re kr => cont v G2 H2 r (g.trans g2) ⟨re.1, fun o p e => g.free (re.2 o p e)⟩ kr⟩)⟩
/-- the slots at the entry -/
def startS (N : List Str) (rs : List Sl) : List Sl := rs ++ List.replicate (N.length - rs.length) .x
theorem envOk_start {K : PySem.W.Frag} {G H : Hp} {N : List Str} {vs : List V} {rs : List Sl} (tt : B.tabs = lamTabs K) (h : ArgOk K B G H vs rs) : EnvOk K B G H (L2.start N vs) (startS N rs) := by
  have hl : vs.length = rs.length := Paired.length h
  have own : ∀ (i : Nat) s, (startS N rs)[i]? = some s → s ≠ .x → rs[i]? = some s := fun i s e n => by
    unfold startS at e
    by_cases hi : i < rs.length
    · rwa [List.getElem?_append_left hi] at e
    · rw [List.getElem?_append_right (by omega), List.getElem?_replicate] at e
      split at e
      · cases e; exact absurd rfl n
      · cases e
  have get : ∀ {vs : List V} {rs : List Sl} (i : Nat) s, ArgOk K B G H vs rs → rs[i]? = some s → ∃ v, vs[i]? = some v ∧ s.own = false ∧ SlOk K B G H v s := by
    intro vs rs i s h
    induction h generalizing i with
    | nil => intro e; simp at e
    | cons q _ ih =>
      cases i with
      | zero => intro e; simp at e; subst e; exact ⟨_, rfl, q⟩
      | succ i => intro e; exact ih i (by simpa using e)
  refine ⟨?_, tt, fun i s e n => ?_, fun i j s t v ne e1 e2 o1 o2 _ _ => ?_⟩
  · unfold L2.start startS
    rw [List.length_append, List.length_append, List.length_map, List.length_replicate, List.length_replicate, hl]
  · obtain ⟨v, hv, _, q⟩ := get i s h (own i s e n)
    refine ⟨v, ?_, q⟩
    unfold L2.start
    have hi : i < vs.length := (List.getElem?_eq_some_iff.mp hv).1
    rw [List.getElem?_append_left (by simpa using hi), List.getElem?_map, hv]
    rfl
  · have e3 := own i s e1 (by rintro rfl; cases o1)
    obtain ⟨v', _, o3, _⟩ := get i s h e3
    rw [o3] at o1; cases o1
theorem start_own {K : PySem.W.Frag} {B : Bg} {G H : Hp} {N : List Str} {vs : List V} {rs : List Sl} (tt : B.tabs = lamTabs K) (ao : ArgOk K B G H vs rs) {i : Nat} {t : Sl} (e : (startS N rs)[i]? = some t) (o : t.own = true) : False := by
  unfold startS at e
  by_cases hi : i < rs.length
  · rw [List.getElem?_append_left hi] at e
    have key : ∀ {vs : List V} {rs : List Sl} (i : Nat) s, ArgOk K B G H vs rs → rs[i]? = some s → s.own = false := by
      intro vs rs i s h
      induction h generalizing i with
      | nil => intro e; simp at e
      | cons q _ ih =>
        cases i with
        | zero => intro e; simp at e; subst e; exact q.1
        | succ i => intro e; exact ih i (by simpa using e)
    rw [key i t ao e] at o; cases o
  · rw [List.getElem?_append_right (by omega), List.getElem?_replicate] at e
    split at e
    · cases e; cases o
    · cases e
/-- THE RULE for a def -/
theorem has_of {P : Program} {w : World} {K : PySem.W.Frag} {mg : Str → Option Value} {base : Heap} {n : Nat} {x : Str} {st : Stmt} {N ps : List Str} {pre : FS} (F : Df K mg x st ps) (S : FnScope N ps (defScope st)) (len : ∀ rs k, pre rs k → rs.length = ps.length)
    (body : ∀ (f : Addr) (cdv : Value) (A : Around) (outer : List Env) (s : Shared) (H : Hp) (E : XK), Room n (A.deeper (envOfC x (defScope st) s.heap.objs.size f cdv)) → ∀ (B : Bg) (rs : List Sl) (k : Sl → Prop), pre rs k →
      RunSs (cxOf CX0 P w K mg base N x (defScope st) f cdv A outer s H E).nox B (defBody st) (startS N rs) { nx := fun _ => k (.d .none), rt := k }) : Has P w K mg base (n + 1) x ps pre := by
  obtain ⟨f, fd, F, hm, hb⟩ := F
  refine ⟨f, fd, F.ok S (fun vs H Q E h => ?_) (fun cdv A outer s H vs Q E hr h => ?_), hm, F.kp, hb⟩
  · obtain ⟨B, G, rs, k, _, _, ao, pr, _⟩ := h
    rw [Paired.length ao]
    exact len rs k pr
  · obtain ⟨B, G, rs, k, tt, ok, ao, pr, cont⟩ := h
    refine ⟨_, pss_self.nox, ?_⟩
    refine (body f cdv A outer s H E hr B rs k pr).run G H (L2.start N vs) G H _ ⟨Grow.refl ok, envOk_start tt ao, fun i t p e o ev => ?_⟩ ⟨fun Γ σ G' H' st q => cont .non G' H' _ st.gr (Res.dat .non) q, fun v G' H' r g re q => cont v G' H' r g re q, fun _ _ _ _ _ q => q.elim, fun _ _ _ _ _ q => q.elim, fun _ _ _ => trivial⟩
    exact (start_own tt ao e o).elim
end
end Ab
namespace Ab
open PySem PySem.Spec L2

/-! ### data: what may be compared, what == tells -/
structure Fl (n : Nat) (d : PyData) : Prop where
  c : d.canLay0 = true
  p : d.depth ≤ n
theorem Fl.mono {n m : Nat} {d : PyData} (h : Fl n d) (e : n ≤ m) : Fl m d := ⟨h.c, Nat.le_trans h.p e⟩
theorem Fl.int (i : Int) {n : Nat} : Fl n (.int i) := ⟨by simp only [PyData.canLay0], by simp only [PyData.depth]; omega⟩
theorem Fl.bool (i : Bool) {n : Nat} : Fl n (.bool i) := ⟨by simp only [PyData.canLay0], by simp only [PyData.depth]; omega⟩
theorem Fl.none {n : Nat} : Fl n .none := ⟨by simp only [PyData.canLay0], by simp only [PyData.depth]; omega⟩
theorem Fl.str {x : Str} (h : PyData.canLay0 (.str x) = true) {n : Nat} : Fl n (.str x) := ⟨h, by simp only [PyData.depth]; omega⟩
theorem fl_all {n : Nat} : ∀ {ds : List PyData}, (∀ d ∈ ds, Fl n d) → PyData.canLayAll0 ds = true ∧ PyData.depthAll ds ≤ n
  | [], _ => ⟨by simp only [PyData.canLayAll0], by simp only [PyData.depthAll]; omega⟩
  | d :: ds, h => by
    have h1 := h d List.mem_cons_self
    have h2 := fl_all fun x hx => h x (List.mem_cons_of_mem _ hx)
    refine ⟨by simp only [PyData.canLayAll0]; rw [h1.c, h2.1]; rfl, ?_⟩
    simp only [PyData.depthAll]
    exact Nat.max_le.mpr ⟨h1.p, h2.2⟩
theorem Fl.tup {n : Nat} {ds : List PyData} (h : ∀ d ∈ ds, Fl n d) : Fl (n + 1) (.tuple ds) := by
  have q := fl_all h
  exact ⟨by simp only [PyData.canLay0]; exact q.1, by simp only [PyData.depth]; omega⟩
theorem Fl.lst {n : Nat} {ds : List PyData} (h : ∀ d ∈ ds, Fl n d) : Fl (n + 1) (.list ds) := by
  have q := fl_all h
  exact ⟨by simp only [PyData.canLay0]; exact q.1, by simp only [PyData.depth]; omega⟩
theorem Fl.sh {n : Nat} {d : PyData} (h : Fl n d) (e : n ≤ 64 := by decide) : SeqAt.shaped d = true := by
  unfold SeqAt.shaped
  rw [h.c, decide_eq_true (Nat.le_trans h.p e)]
  rfl
theorem Fl.ints (ns : List Int) {n : Nat} : ∀ d ∈ ns.map PyData.int, Fl n d := fun d hd => by
  obtain ⟨i, _, rfl⟩ := List.mem_map.mp hd
  exact .int i
theorem Fl.tupI (ns : List Int) : Fl 1 (.tuple (ns.map PyData.int)) := .tup (Fl.ints ns)
theorem Fl.map {α : Type} {e : α → PyData} {n : Nat} (h : ∀ x, Fl n (e x)) (xs : List α) : ∀ d ∈ xs.map e, Fl n d := fun d hd => by
  obtain ⟨i, _, rfl⟩ := List.mem_map.mp hd
  exact h i
theorem Fl.two {n : Nat} {a b : PyData} (ha : Fl n a) (hb : Fl n b) : ∀ d ∈ [a, b], Fl n d := fun d hd => by
  rcases List.mem_cons.mp hd with z | hd
  · rw [z]; exact ha
  · rcases List.mem_cons.mp hd with z | hd
    · rw [z]; exact hb
    · cases hd
theorem Fl.nil {n : Nat} : ∀ d ∈ ([] : List PyData), Fl n d := fun d hd => by cases hd
theorem Fl.cons {n : Nat} {a : PyData} {r : List PyData} (ha : Fl n a) (hr : ∀ d ∈ r, Fl n d) : ∀ d ∈ a :: r, Fl n d := fun d hd => by
  rcases List.mem_cons.mp hd with z | hd
  · rw [z]; exact ha
  · exact hr d hd
theorem eqv_int (i j : Int) : PyData.eqv (.int i) (.int j) = decide (i = j) := by
  simp only [PyData.eqv]
  exact Bool.beq_eq_decide_eq i j
theorem eqv_bool (i j : Bool) : PyData.eqv (.bool i) (.bool j) = decide (i = j) := by
  simp only [PyData.eqv]
  exact Bool.beq_eq_decide_eq i j
theorem eqv_str (i j : Str) : PyData.eqv (.str i) (.str j) = decide (i = j) := by
  simp only [PyData.eqv]
  exact Bool.beq_eq_decide_eq i j
theorem eqv_tup (xs ys : List PyData) : PyData.eqv (.tuple xs) (.tuple ys) = PyData.eqvAll xs ys := by simp only [PyData.eqv]
theorem eqv_lst (xs ys : List PyData) : PyData.eqv (.list xs) (.list ys) = PyData.eqvAll xs ys := by simp only [PyData.eqv]
theorem eqvAll_map {α : Type} [DecidableEq α] (e : α → PyData) (he : ∀ x y, PyData.eqv (e x) (e y) = decide (x = y)) : ∀ xs ys : List α, PyData.eqvAll (xs.map e) (ys.map e) = decide (xs = ys)
  | [], [] => by simp [PyData.eqvAll]
  | [], _ :: _ => by simp [PyData.eqvAll]
  | _ :: _, [] => by simp [PyData.eqvAll]
  | x :: xs, y :: ys => by
    have ih := eqvAll_map e he xs ys
    simp only [List.map_cons, PyData.eqvAll, he, ih]
    by_cases h1 : x = y
    · by_cases h2 : xs = ys
      · simp [h1, h2]
      · simp [h1, h2]
    · simp [h1]
theorem eqv_tupI (ns ms : List Int) : PyData.eqv (.tuple (ns.map .int)) (.tuple (ms.map .int)) = decide (ns = ms) := by rw [eqv_tup]; exact eqvAll_map _ eqv_int ns ms
theorem eqv_lstI (ns ms : List Int) : PyData.eqv (.list (ns.map .int)) (.list (ms.map .int)) = decide (ns = ms) := by rw [eqv_lst]; exact eqvAll_map _ eqv_int ns ms
theorem eqv_nil {α : Type} (e : α → PyData) (xs : List α) : PyData.eqv (.list (xs.map e)) (.list []) = xs.isEmpty := by
  rw [eqv_lst]
  cases xs <;> simp [PyData.eqvAll]
theorem eqv_nilT {α : Type} (e : α → PyData) (xs : List α) : PyData.eqv (.tuple (xs.map e)) (.tuple []) = xs.isEmpty := by
  rw [eqv_tup]
  cases xs <;> simp [PyData.eqvAll]
/-- an int or None -/
def encO : Option Int → PyData
  | .none => .none
  | .some i => .int i
theorem Fl.o (o : Option Int) {n : Nat} : Fl n (encO o) := by cases o with
  | none => exact .none
  | some i => exact .int i
theorem eqv_o (a b : Option Int) : PyData.eqv (encO a) (encO b) = decide (a = b) := by
  cases a <;> cases b
  · simp [encO, PyData.eqv]
  · simp [encO, PyData.eqv]
  · simp [encO, PyData.eqv]
  · simp only [encO, eqv_int, Option.some.injEq]
/-- a pair of an int and an int or None -/
def encP (p : Int × Option Int) : PyData := .tuple [.int p.1, encO p.2]
theorem Fl.p2 (p : Int × Option Int) : Fl 1 (encP p) := .tup (Fl.two (.int _) (.o _))
theorem eqv_p (a b : Int × Option Int) : PyData.eqv (encP a) (encP b) = decide (a = b) := by
  obtain ⟨a1, a2⟩ := a
  obtain ⟨b1, b2⟩ := b
  simp only [encP, eqv_tup, PyData.eqvAll, eqv_int, eqv_o, Bool.and_true, Prod.mk.injEq]
  by_cases h1 : a1 = b1 <;> by_cases h2 : a2 = b2 <;> simp [h1, h2]
def encN : Option (Int × Option Int) → PyData
  | .none => .none
  | .some p => encP p
theorem Fl.n (o : Option (Int × Option Int)) : Fl 1 (encN o) := by cases o with
  | none => exact .none
  | some i => exact .p2 i
theorem eqv_n (a b : Option (Int × Option Int)) : PyData.eqv (encN a) (encN b) = decide (a = b) := by
  cases a <;> cases b
  · simp [encN, PyData.eqv]
  · simp [encN, encP, PyData.eqv]
  · simp [encN, encP, PyData.eqv]
  · simp only [encN, eqv_p, Option.some.injEq]
theorem isNon_o (o : Option Int) : isNon (encO o) = o.isNone := by cases o <;> rfl
theorem isNon_n (o : Option (Int × Option Int)) : isNon (encN o) = o.isNone := by cases o <;> rfl
theorem foldl_take_succ {α β : Type} {f : β → α → β} {s : β} {l : List α} {i : Nat} {x : α} (h : l[i]? = some x) : (l.take (i + 1)).foldl f s = f ((l.take i).foldl f s) x := by
  rw [List.take_succ, h, List.foldl_append]
  rfl
theorem atI_0 {α : Type} (x : α) (xs : List α) : atI (x :: xs) 0 = some x := by
  have h := atI_nat (xs := x :: xs) (j := 0) (v := x) rfl
  exact h
theorem atI_1 {α : Type} (x y : α) (xs : List α) : atI (x :: y :: xs) 1 = some y := by
  have h := atI_nat (xs := x :: y :: xs) (j := 1) (v := y) rfl
  exact h
end Ab
namespace Ab
open PySem PySem.Spec L2
section
variable {X : Cx} {B : Bg} {Γ : List Sl} {D : Dn} {st : Stmt} {rest a b body : List Stmt} {e c e1 e2 o i : Expr} {es : List Expr} {pos p1 : Pos} {k : Sl → Prop}

/-! ### a bag: [draws, place] -/
theorem bag_at {K : PySem.W.Frag} {G H : Hp} {σ : L2.St} (ok : Ok B G H) (en : EnvOk K B G H σ Γ) {i : Nat} (hg : Γ[i]? = some .bg) : ∃ b, σ[i]? = some (some (.ref b)) ∧ B.bags b ∧ BagAt G H b := by
  obtain ⟨v, e, b, ev, hb⟩ := en.ok i _ hg (by simp)
  subst ev
  exact ⟨b, e, hb, (ok.bag b hb).2⟩
theorem ee_bag1 (i : Nat) {x : Str} {p2 p3 : Pos} {j} (hg : Γ[i]? = some .bg) (q : ∀ n : Int, 0 ≤ n → k (.d (.int n))) (hN : X.N[i]? = some x := by rfl) (hv : Vis X.env.scope x := by first | exact Or.inl rfl | exact Or.inr (Or.inl rfl) | exact Or.inr (Or.inr rfl))
    (hd : (x == ("__debug__" : Str)) = false := by decide) (hcd : (x == ("__classdict__" : Str)) = false := by decide) (hs : PlainIx (.Constant (.int 1) j p3) := by intro _ _; rfl) : EvE X B (.Subscript (.Name x p2) (.Constant (.int 1) j p3) pos) Γ k :=
  ⟨fun σ G H Q ok en cont => tE_of (pe_ix ix_list (pe_var hN hv hd hcd) pe_int hs) (by
    obtain ⟨b, e, hb, dl, n, ns, hh, hdl, hlen, hr, hn⟩ := bag_at ok en hg
    refine ⟨_, e, b, _, 1, .int n, rfl, rfl, L2.SqL.of hh, atI_1 _ _ _, cont _ G H _ (Grow.refl ok) (Res.dat (.int n)) (q n hn)⟩)⟩
theorem ee_bag0 (i : Nat) {x : Str} {p2 p3 : Pos} {j} (hg : Γ[i]? = some .bg) (q : ∀ ns : List Int, ns.length = 400 → (∀ n ∈ ns, 0 ≤ n ∧ n < 1000) → k (.d (.list (ns.map .int)))) (hN : X.N[i]? = some x := by rfl) (hv : Vis X.env.scope x := by first | exact Or.inl rfl | exact Or.inr (Or.inl rfl) | exact Or.inr (Or.inr rfl))
    (hd : (x == ("__debug__" : Str)) = false := by decide) (hcd : (x == ("__classdict__" : Str)) = false := by decide) (hs : PlainIx (.Constant (.int 0) j p3) := by intro _ _; rfl) : EvE X B (.Subscript (.Name x p2) (.Constant (.int 0) j p3) pos) Γ k :=
  ⟨fun σ G H Q ok en cont => tE_of (pe_ix ix_list (pe_var hN hv hd hcd) pe_int hs) (by
    obtain ⟨b, e, hb, dl, n, ns, hh, hdl, hlen, hr, hn⟩ := bag_at ok en hg
    refine ⟨_, e, b, _, 0, .ref dl, rfl, rfl, L2.SqL.of hh, atI_0 _ _, cont _ G H _ (Grow.refl ok) (Res.dat (.lst (SqL.of hdl) (DpAll.ints ns))) (q ns hlen hr)⟩)⟩
/-- bag[1] = e -/
theorem rs_bagset (i : Nat) {x : Str} {p2 p3 p4 : Pos} {j} (hg : Γ[i]? = some .bg) (h : EvE X B e Γ (Sl.int fun n => 0 ≤ n ∧ D.nx Γ)) (hN : X.N[i]? = some x := by rfl) (hv : Vis X.env.scope x := by first | exact Or.inl rfl | exact Or.inr (Or.inl rfl) | exact Or.inr (Or.inr rfl))
    (hd : (x == ("__debug__" : Str)) = false := by decide) (hcd : (x == ("__classdict__" : Str)) = false := by decide)
    (hs : swapsWithSole [.Subscript (.Name x p2) (.Constant (.int 1) j p3) p4] e pos.line X.env = pure false := by rfl) (hw : swappedStores [.Subscript (.Name x p2) (.Constant (.int 1) j p3) p4] e X.env = pure none := by rfl)
    (h1 : (assignEach [.Subscript (.Name x p2) (.Constant (.int 1) j p3) p4] X.env).map (·.2) = [assign (.Subscript (.Name x p2) (.Constant (.int 1) j p3) p4) X.env] := by rfl)
    (ha : ∀ v, assign (.Subscript (.Name x p2) (.Constant (.int 1) j p3) p4) X.env v = (do
      let ov ← holding [v] (eval (.Name x p2) X.env)
      let iv ← holding [v, ov] (eval (.Constant (.int 1) j p3) X.env)
      standAt p4
      holding [v, ov, iv] (setItem ov iv v)
      release [v, ov, iv] []) := by intro _; rfl) : RunS X B (.Assign [.Subscript (.Name x p2) (.Constant (.int 1) j p3) p4] e pos) Γ D :=
  ⟨fun G0 H0 σ G H DH s d => tS_of (ps_asg pe_self (pg_sub (pe_var hN hv hd hcd) pe_int set_list ha) hs hw h1) (h.run σ G H _ s.gr.ok s.en fun v G1 H1 r g re kr => by
    obtain ⟨n, rfl, hn, q⟩ := int_inv re kr
    have s1 := s.grow g
    obtain ⟨b, eb, hb, dl, m, ns, hh, hdl, hlen, hr, hm⟩ := bag_at s1.gr.ok s1.en hg
    have gb := (s1.gr.ok.bag b hb).1
    have ok2 : Ok B G1 (upd H1 b (.lst [.ref dl, .int n])) := by
      refine ⟨fun a u z => ?_, fun b' hb' => ?_, fun t ht => ?_⟩
      · rw [upd_ne (ne_of_none z gb)]
        exact s1.gr.ok.ex a u z
      · obtain ⟨z, dl', i', ns', e1, r'⟩ := s1.gr.ok.bag b' hb'
        by_cases hbb : b' = b
        · subst hbb
          exact ⟨z, dl, n, ns, upd_same, hdl, hlen, hr, hn⟩
        · exact ⟨z, dl', i', ns', by rw [upd_ne hbb]; exact e1, r'⟩
      · obtain ⟨z, y⟩ := s1.gr.ok.tab t ht
        obtain ⟨ps, y1⟩ := y.some
        exact ⟨z, y.mono (Ext.refl _) (upd_ne (ne_of y1 hh (by simp)))⟩
    have gr2 : Grow B G1 H1 G1 (upd H1 b (.lst [.ref dl, .int n])) := ⟨Ext.refl _, fun a u na z => by rw [upd_ne (fun (y : a = b) => na (by rw [y]; exact .inl hb))]; exact z, fun a u _ z => z, ok2⟩
    exact ⟨_, eb, b, _, 1, 1, rfl, rfl, hh, rfl, d.nx Γ σ G1 _ (s1.grow gr2) q⟩)⟩

/-! ### own dicts with int keys -/
def putG {κ β : Type} [DecidableEq κ] (kvs : List (κ × β)) (k : κ) (v : β) : List (κ × β) :=
  if (kvs.any fun kv => decide (kv.1 = k)) = true then kvs.map (fun kv => if kv.1 = k then (kv.1, v) else kv) else kvs ++ [(k, v)]
theorem putG_dp {K : PySem.W.Frag} {G : Hp} {ks : List (Key × V)} {kvs : List (Key × PyData)} {kk : Key} {v : V} {d : PyData} (h : DpK K G ks kvs) (hv : Dp K G v d) : DpK K G (putK ks kk v) (putG kvs kk d) := by
  have ha : (ks.any fun kv => decide (kv.1 = kk)) = (kvs.any fun kv => decide (kv.1 = kk)) := by
    unfold DpK at h
    induction h with
    | nil => rfl
    | cons q _ ih => rw [List.any_cons, List.any_cons, ih, q.1]
  unfold putK putG
  rw [ha]
  by_cases c : (kvs.any fun kv => decide (kv.1 = kk)) = true
  · rw [if_pos c, if_pos c]
    clear ha c
    unfold DpK at h ⊢
    induction h with
    | nil => exact .nil
    | @cons p q _ _ r _ ih =>
      refine .cons ?_ ih
      simp only []
      rw [r.1]
      by_cases e : q.1 = kk
      · rw [if_pos e, if_pos e]; exact ⟨rfl, hv⟩
      · rw [if_neg e, if_neg e]; exact r
  · rw [if_neg c, if_neg c]
    clear ha c
    unfold DpK at h ⊢
    induction h with
    | nil => exact .cons ⟨rfl, hv⟩ .nil
    | cons r _ ih => exact .cons r ih
theorem putG_length {κ β : Type} [DecidableEq κ] (kvs : List (κ × β)) (k : κ) (v : β) : (putG kvs k v).length ≤ kvs.length + 1 := by
  unfold putG
  split
  · rw [List.length_map]; omega
  · rw [List.length_append, List.length_singleton]; exact Nat.le_refl _
/-- {} -/
theorem ee_dict0 (q : k (.od [])) : EvE X B (.Dict [] [] pos) Γ k :=
  ⟨fun σ G H Q ok en cont => tE_of pe_dnewK fun p hp => cont _ G _ (.od []) (Grow.newOwn ok hp _) ⟨⟨p, [], rfl, ok.notfree hp, ok.ex.free hp, upd_same, .nil⟩, fun _ q e => by cases e; exact hp⟩ q⟩
/-- found[key] = value -/
theorem rs_dput (j : Nat) {x : Str} {p2 p3 : Pos} {kvs : List (Key × PyData)} {key value : Expr} {k0 : Nat} (hr : Room k0 X.A) (hg : Γ[j]? = some (.od kvs)) (h : EvE X B value Γ (Sl.dat fun d => EvE X B key Γ (Sl.int fun n => kvs.length < 1000000 ∧ D.nx (Γ.set j (.od (putG kvs (.inl n) d)))))) (hN : X.N[j]? = some x := by rfl) (hv : Vis X.env.scope x := by first | exact Or.inl rfl | exact Or.inr (Or.inl rfl) | exact Or.inr (Or.inr rfl))
    (hd : (x == ("__debug__" : Str)) = false := by decide) (hcd : (x == ("__classdict__" : Str)) = false := by decide) (hs : swapsWith value (some (.Subscript (.Name x p2) key p3)) pos.line X.env = pure false := by rfl) : RunS X B (.Assign [.Subscript (.Name x p2) key p3] value pos) Γ D :=
  ⟨fun G0 H0 σ G H DH s d => tS_of (ps_dput (hu_of hr) (pe_var hN hv hd hcd) pe_self pe_self hs) ((EvD.of h).run σ G H _ s.gr.ok s.en fun v G1 H1 dd g dv kd => by
    have s1 := s.grow g
    obtain ⟨v', e1, p, ks, ev, nb, z, hp, da⟩ := s1.en.ok j _ hg (by simp)
    subst ev
    refine ⟨_, e1, kd.run σ G1 H1 _ s1.gr.ok s1.en fun w G2 H2 r2 g2 re2 k2 => ?_⟩
    obtain ⟨n, rfl, hlen, q⟩ := int_inv re2 k2
    have s2 := s1.grow g2
    have z2 := g2.n _ _ hp z
    have hp2 := g2.h _ _ nb hp
    have hl : ks.length = kvs.length := Paired.length da
    refine ⟨p, _, rfl, DPut.k (k := .inl n) hp2 (by rw [hl]; exact Nat.lt_of_lt_of_le hlen (by decide)), d.nx _ σ G2 _ ⟨⟨s2.gr.g, fun a o na e => ?_, s2.gr.n, s2.gr.ok.mut nb z2 _⟩, ?_, fun j' t q' e2 o2 e3 => ?_⟩ q⟩
    · have hf := s2.fr j _ p hg rfl e1
      rw [upd_ne (ne_of_none e hf)]
      exact s2.gr.h a o na e
    · exact s2.en.mut (s' := .od (putG kvs (.inl n) dd)) hg rfl e1 ⟨p, _, rfl, nb, z2, upd_same, putG_dp (DpK.ext g2.g da) (Dp.ext g2.g _ _ dv)⟩ rfl
    · by_cases hj : j = j'
      · subst hj
        have e4 := e1
        rw [e3] at e4
        cases e4
        exact s2.fr j _ _ hg rfl e1
      · rw [List.getElem?_set_ne hj] at e2
        exact s2.fr j' t q' e2 o2 e3)⟩
/-- sorted(found), its keys ints -/
theorem ee_sortedOd (j : Nat) {x : Str} {p2 : Pos} {kvs : List (Key × PyData)} (ks : List Int) (hm : X.mg "sorted" = none) (hc : X.calm = true) (hg : Γ[j]? = some (.od kvs)) (hk : kvs.map (·.1) = ks.map Sum.inl) (h64 : ks.length < 64) (q : ∀ ms : List Int, ms.Perm ks → ms.Pairwise (· ≤ ·) → k (.ol (ms.map .int)))
    (hN : X.N[j]? = some x := by rfl) (hv : Vis X.env.scope x := by first | exact Or.inl rfl | exact Or.inr (Or.inl rfl) | exact Or.inr (Or.inr rfl)) (hd : (x == ("__debug__" : Str)) = false := by decide) (hcd : (x == ("__classdict__" : Str)) = false := by decide)
    (hgl : Gl X "sorted" := by rfl) (he : starEach [.Name x p2] X.env = (false, eval (.Name x p2) X.env) :: starEach [] X.env := by rfl) (hpl : (backTo pos (starEach [] X.env)).any (·.1) = false := by rfl) : EvE X B (.Call (.Name "sorted" p1) [.Name x p2] [] pos) Γ k :=
  ee_cb1 (call_sortedDI hc) hm boot_sorted (fun σ G H Q ok en cont => tE_of (pe_var hN hv hd hcd) (by
    obtain ⟨v', e1, p, ks', ev, nb, z, hp, da⟩ := en.ok j _ hg (by simp)
    subst ev
    refine ⟨_, e1, p, ks', ks, rfl, .inl hp, ?_, h64, fun ys y hy hs hz => cont _ G _ (.ol (ys.map .int)) (Grow.newOwn ok hz _) ⟨⟨y, _, rfl, ok.notfree hz, ok.ex.free hz, upd_same, DpAll.ints ys⟩, fun _ p e => by cases e; exact hz⟩ (q ys hy hs)⟩
    rw [← hk]
    unfold DpK at da
    clear hk hg hp e1
    induction da with
    | nil => rfl
    | cons r _ ih => rw [List.map_cons, List.map_cons, ih, r.1])) (by decide) (by decide) hgl he hpl
end
end Ab
namespace SrtO
open PySem PyProof.Rows Srt PySem.Spec
section
variable {prog : Program} {w : World} {A : Around} {E : Value → Shared → Prop} {s : Shared}
/-- sorted(t), t a tuple -/
theorem sorted_ordT {l : Addr} {vs : List Value} {ltv : Value → Value → Bool} {Q : Value → Shared → Prop} (O : Swo ltv) (hl : IsTup s.heap l vs.toArray) (hz : vs.length ≤ sizeLine)
    (hS : 2 ≤ vs.length → ∀ (h₁ : Heap) (a : Addr), h₁.get? a = some (seqObj "list" vs.toArray 0) → (∀ b o, s.heap.get? b = some o → b ≠ a ∧ h₁.get? b = some o) → SortableO prog w A.in1.in1 { s with heap := h₁ } a vs ltv)
    (h : ∀ (out : List Value) (h1 h' : Heap) (p : Addr) (ep : Nat), Srtd ltv out → Stb ltv out vs → (∀ b o, s.heap.get? b = some o → h1.get? b = some o) → h1.objs.size ≤ p → (∀ b o, h1.get? b = some o → h'.get? b = some o) → h'.get? p = some (seqObj "list" out.toArray ep) → Q (.ref p) { s with heap := h' }) :
    wpAny (model prog w) A (call (.builtin "sorted") [.ref l]) Q E s := by
  obtain ⟨o, ho, hc, n, hd⟩ := hl
  refine Calls.call_function_entry kind_sorted plain_sorted entry_sorted (args_sorted1 _) ?_
  unfold Builtin.«sorted»
  refine wpAny_bind (m := checkCount "sorted" 1 1 _) (wpAny_pure ?_)
  refine wpAny_bind (wpAny_collect_seq l (.inr rfl) ho hc hd (fun h' hk => ?_) (by rw [List.size_toArray]; exact hz))
  have e0 : vs.toArray.toList = vs := by simp
  rw [e0]
  refine wpAny_bind (wpAny_newList ?_ hz)
  have hoL : (h'.push (seqObj "list" vs.toArray 0)).get? h'.objs.size = some (seqObj "list" vs.toArray 0) := Heap.get?_push_size _ rfl
  have keep : ∀ b o, s.heap.get? b = some o → b ≠ h'.objs.size ∧ (h'.push (seqObj "list" vs.toArray 0)).get? b = some o := fun b o q =>
    ⟨Nat.ne_of_lt (Heap.lt_size (hk b o q)), Heap.get?_push_of_some _ (hk b o q)⟩
  show wpAny _ _ _ _ _ { s with heap := h'.push (seqObj "list" vs.toArray 0) }
  refine wpAny_bind (wpAny_holding (wpAny_call_entry slot_list_sort ⟨_, hoL, rfl⟩ entry_list_sort (list_sort_ord O hoL hz (fun h2 => hS h2 _ _ hoL keep) fun out hs hb => ⟨_, rfl, ?_⟩) (args_list_sort _)))
  obtain ⟨ep, he⟩ := sortedHeap_at (vs := vs) (out := out.toArray) hoL
  refine wpAny_pure ⟨_, rfl, h out h' _ _ ep hs hb hk (Nat.le_refl _) (fun b o q2 => ?_) he⟩
  have hlt := Heap.lt_size q2
  show (sortedHeap (h'.push (seqObj "list" vs.toArray 0)) h'.objs.size vs out.toArray).get? b = some o
  rw [sortedHeap_old (Nat.ne_of_lt hlt) (by rw [size_push']; exact Nat.lt_succ_of_lt hlt)]
  exact Heap.get?_push_of_some _ q2
end
end SrtO
namespace Ab
open PySem PySem.Spec L2
section
variable {X : Cx} {B : Bg} {Γ : List Sl} {D : Dn} {e : Expr} {pos p1 p2 : Pos} {k : Sl → Prop}
def rSortedTI (K : PySem.W.Frag) : List V → Hp → VK → Prop := fun vs H Q => ∃ (a : Addr) (ns : List Int), vs = [V.ref a] ∧ SqT K H a (ns.map V.int) ∧
  ∀ (ns' : List Int) (p : Addr), ns'.Perm ns → ns'.Pairwise (· ≤ ·) → H p = none → Q (.ref p) (upd H p (.lst (ns'.map V.int)))
theorem cr_sortedTI : CallR X (.builtin "sorted") (rSortedTI X.K) := by
  intro pins s σ H vs us Q I r h
  obtain ⟨a, ns, rfl, hs, q⟩ := h
  obtain ⟨its, rv, hl, hz⟩ := I.tuple hs.up
  rw [Vals.ref1 r]
  have hi := rv.ints
  refine SrtO.sorted_ordT SrtO.swo_int hl (by rw [← rv.length]; exact hz) (fun h2 h₁ a' _ _ => SrtO.ints_sortable hi h2) fun out h1' h' p ep h1 h2 hk1 hp hk he => ?_
  obtain ⟨k1, k2, k3⟩ := SrtO.ints_out hi h1 h2
  have hlen : ((out.map SrtO.iv).map V.int).length ≤ sizeLine := by
    rw [List.length_map, k2.length_eq]
    rw [List.length_map] at hz
    exact hz
  exact ⟨.ref _, upd H p (.lst ((out.map SrtO.iv).map V.int)), (I.kept (t' := s.toks) hk1).laid (t' := s.toks) hk hp ⟨hlen, out, ep, vals_of_ints k1, he⟩, rfl, q _ _ k2 k3 ((I.kept (t' := s.toks) hk1).hok.fresh hp)⟩
/-- sorted(a tuple of ints) -/
theorem ee_sortedT (hm : X.mg "sorted" = none) (h : EvE X B e Γ (Sl.tup fun ds => ∃ ns : List Int, ds = ns.map .int ∧ ∀ ms : List Int, ms.Perm ns → ms.Pairwise (· ≤ ·) → k (.ol (ms.map .int)))) (hg : Gl X "sorted" := by rfl) (he : starEach [e] X.env = (false, eval e X.env) :: starEach [] X.env := by rfl) (hpl : (backTo pos (starEach [] X.env)).any (·.1) = false := by rfl) : EvE X B (.Call (.Name "sorted" p1) [e] [] pos) Γ k :=
  ee_cb1 cr_sortedTI hm boot_sorted (fun σ G H Q ok en cont => h.run σ G H _ ok en fun v G1 H1 r g re kr => by
    obtain ⟨p, xs, ds, rfl, sq, da, ns, ed, q⟩ := tup_inv re kr
    subst ed
    rw [DpAll.ints_inv da] at sq
    refine ⟨p, ns, rfl, SqT.ext g.ok.ex sq, fun ms z hp hs hz => ?_⟩
    exact cont _ G1 _ (.ol (ms.map .int)) (g.trans (Grow.newOwn g.ok hz _)) ⟨⟨z, _, rfl, g.ok.notfree hz, g.ok.ex.free hz, upd_same, DpAll.ints ms⟩, fun _ p e => by cases e; exact g.free hz⟩ (q ms hp hs)) (by decide) (by decide) hg he hpl
theorem lst_ol {f : List PyData → Prop} {ds : List PyData} (h : f ds) : Sl.lst f (.ol ds) := h
theorem lst_d {f : List PyData → Prop} {ds : List PyData} (h : f ds) : Sl.lst f (.d (.list ds)) := h
theorem tup_d {f : List PyData → Prop} {ds : List PyData} (h : f ds) : Sl.tup f (.d (.tuple ds)) := h
/-! ### sets of ints -/
def SetI (w : World) (a : Addr) (S : Int → Bool) (n : Nat) : HO := .ext fun h => SetR w h a S n
def rSetTI (K : PySem.W.Frag) (w : World) : List V → Hp → VK → Prop := fun xs H Q => ∃ (a : Addr) (ns : List Int), xs = [V.ref a] ∧ SqT K H a (ns.map V.int) ∧ ns.length ≤ 1000 ∧
  ∀ (p : Addr) (n : Nat), n ≤ ns.length → H p = none → Q (.ref p) (upd H p (SetI w p (fun j => decide (j ∈ ns)) n))
theorem cr_setTI (hc : X.calm = true) : CallR X (.type "set") (rSetTI X.K X.w) := by
  intro pins s σ H xs us Q I r h
  obtain ⟨a, ns, rfl, hs, hn, q⟩ := h
  obtain ⟨its, rv, pt, hz⟩ := I.tuple hs.up
  rw [Vals.ref1 r]
  have hi : PyProof.Rows.IntsAre its.toArray.toList ns := ints_of_vals rv
  refine call_set_tupI ns (I.ok.hd hc) (show s.heap.IsTuple a its.toArray from pt) hi (by unfold scanBound; omega) fun h' tk c R1 hcn kk => ?_
  have ⟨o, _, _, _, ho, _⟩ := R1
  exact ⟨.ref _, upd H s.heap.objs.size (SetI X.w s.heap.objs.size (fun j => decide (j ∈ ns)) c), I.laid (t' := tk) kk (Nat.le_refl _) ⟨R1, ⟨o, ho⟩, fun h1 h2 p kk => SetR.at p kk⟩, rfl, q _ c hcn (I.hok.fresh (Nat.le_refl _))⟩
def rSortedSet (w : World) : List V → Hp → VK → Prop := fun xs H Q => ∃ (a : Addr) (S : Int → Bool) (n : Nat), xs = [V.ref a] ∧ H a = some (SetI w a S n) ∧ n < 64 ∧
  ∀ (p : Addr) (ns : List Int), ns.Pairwise (· < ·) → (∀ k, k ∈ ns ↔ S k = true) → H p = none → Q (.ref p) (upd H p (.lst (ns.map V.int)))
theorem cr_sortedSet (hc : X.calm = true) : CallR X (.builtin "sorted") (rSortedSet X.w) := by
  intro pins s σ H xs us Q I r h
  obtain ⟨a, S, n, rfl, ha, hn, q⟩ := h
  rw [Vals.ref1 r]
  have R : SetR X.w s.heap a S n := (I.hok a _ ha).1
  refine sorted_set R (I.ok.hd hc) hn fun s' p out c ns hk hg ho hp ho2 hi hs hm hl => ?_
  have hlen : (ns.map V.int).length ≤ sizeLine := by rw [List.length_map, hl, sizeLine_eq]; omega
  obtain ⟨h', g', d', t', o'⟩ := s'
  have hf := I.hok.fresh hp
  exact ⟨.ref p, upd H p (.lst (ns.map V.int)), I.call' (ch := []) ho (Un.laid hk hp hf) (I.hok.laid hk hp ⟨hlen, out.toList, c, vals_of_ints hi, ho2⟩) (by rw [hg]; exact I.bare) (fun _ z => nomatch z), rfl, q _ _ hs hm hf⟩
/-- sorted(set(a tuple of ints)) -/
theorem ee_sortedSet {pos2 : Pos} (hm : X.mg "sorted" = none) (hm2 : X.mg "set" = none) (hc : X.calm = true)
    (h : EvE X B e Γ (Sl.tup fun ds => ∃ ns : List Int, ds = ns.map .int ∧ ns.length < 64 ∧ ∀ ms : List Int, ms.Pairwise (· < ·) → (∀ j, j ∈ ms ↔ j ∈ ns) → k (.ol (ms.map .int))))
    (hg : Gl X "sorted" := by rfl) (hg2 : Gl X "set" := by rfl) (he : starEach [.Call (.Name "set" p2) [e] [] pos2] X.env = (false, eval (.Call (.Name "set" p2) [e] [] pos2) X.env) :: starEach [] X.env := by rfl)
    (he2 : starEach [e] X.env = (false, eval e X.env) :: starEach [] X.env := by rfl) (hpl : (backTo pos (starEach [] X.env)).any (·.1) = false := by rfl) (hpl2 : (backTo pos2 (starEach [] X.env)).any (·.1) = false := by rfl) :
    EvE X B (.Call (.Name "sorted" p1) [.Call (.Name "set" p2) [e] [] pos2] [] pos) Γ k :=
  ee_cb1 (cr_sortedSet hc) hm boot_sorted (fun σ G H Q ok en cont => tE_of (pe_callTy (cr_setTI hc) hg2 hm2 PyProof.Rows.boot_set (pa_cons pe_self pa_nil he2) (by decide) (by decide) he2 hpl2) (h.run σ G H _ ok en fun v G1 H1 r g re kr => by
    obtain ⟨p, xs, ds, rfl, sq, da, ns, ed, hl, q⟩ := tup_inv re kr
    subst ed
    rw [DpAll.ints_inv da] at sq
    refine ⟨p, ns, rfl, SqT.ext g.ok.ex sq, by omega, fun z n hn hz => ⟨z, _, n, rfl, upd_same, by omega, fun y ms hp hs hy => ?_⟩⟩
    have g1 := Grow.newOwn g.ok hz (SetI X.w z (fun j => decide (j ∈ ns)) n)
    have g2 := Grow.newOwn g1.ok hy (.lst (ms.map V.int))
    exact cont _ G1 _ (.ol (ms.map .int)) (g.trans (g1.trans g2)) ⟨⟨y, _, rfl, g1.ok.notfree hy, g1.ok.ex.free hy, upd_same, DpAll.ints ms⟩, fun _ p e => by cases e; exact g.free (g1.free hy)⟩ (q ms hp fun j => by rw [hs j, decide_eq_true_eq])))
    (by decide) (by decide) hg he hpl

/-! ### comprehensions over any target -/
theorem AsgT.mono {tg : Expr} {is : List Nat} {d : PyData} {k1 k2 : List Sl → Prop} (h : AsgT X B tg is d Γ k1) (m : ∀ Γ', k1 Γ' → k2 Γ') : AsgT X B tg is d Γ k2 :=
  ⟨fun σ G H v Q o en hd cont => h.run σ G H v Q o en hd fun Γ' σ' en' ow st q => cont Γ' σ' en' ow st (m Γ' q)⟩
/-- [elt for tg in xs] -/
theorem lc_mapG {α : Type} {tg elt : Expr} {scope : Scope} {own : List (Str × Nat)} {is : List Nat} {ds : List PyData} (xs : List α) (enc r : α → PyData) (he : ds = xs.map enc) (hz : xs.length ≤ 1000000)
    (step : ∀ a ∈ xs, ∀ s H C cl fp, AsgT (Bk X scope s H C cl fp) B tg is (enc a) (wipeS Γ (own.map (·.2))) fun Γ2 => ∀ s H C cl fp, EvE (Bk X scope s H C cl fp) B elt Γ2 (Sl.dat fun y => y = r a)) (q : k (.ol (xs.map r))) : LcStep X B tg elt [] scope own is Γ k ds := by
  subst he
  refine ⟨fun j acc => acc = (xs.take j).map r, by simp, by rw [List.length_map]; exact hz, fun j d acc hd ha s H C cl fp => ?_, fun acc ha => ?_⟩
  · rw [List.getElem?_map] at hd
    cases e : xs[j]? with
    | none => rw [e] at hd; cases hd
    | some a =>
      rw [e] at hd
      cases hd
      refine (step a (List.mem_of_getElem? e) s H C cl fp).mono fun Γ2 kk s H C cl fp => ets_nil fun s H C cl fp => ?_
      refine ⟨fun σ G Hh Q o en cont => (kk s H C cl fp).run σ G Hh Q o en fun v G' H' r' g re kr => cont v G' H' r' g re ?_⟩
      have ha : acc = (xs.take j).map r := ha
      have fin : ∀ y, y = r a → acc ++ [y] = (xs.take (j + 1)).map r := fun y hy => by
        rw [ha, hy, List.take_succ, e, List.map_append]
        rfl
      cases r' with
      | d z => exact fin _ kr
      | ol z => exact fin _ kr
      | _ => exact kr
  · have ha : acc = (xs.take (xs.map enc).length).map r := ha
    rw [List.length_map, List.take_length] at ha
    rw [ha]
    exact q
/-- [elt for tg in xs if tst] -/
theorem lc_filG {α : Type} {tg elt tst : Expr} {scope : Scope} {own : List (Str × Nat)} {is : List Nat} {ds : List PyData} (xs : List α) (enc r : α → PyData) (f : α → Bool) (he : ds = xs.map enc) (hz : xs.length ≤ 1000000)
    (step : ∀ a ∈ xs, ∀ s H C cl fp, AsgT (Bk X scope s H C cl fp) B tg is (enc a) (wipeS Γ (own.map (·.2))) fun Γ2 => (∀ s H C cl fp, EvT (Bk X scope s H C cl fp) B tst Γ2 fun t => t = f a) ∧ (f a = true → ∀ s H C cl fp, EvE (Bk X scope s H C cl fp) B elt Γ2 (Sl.dat fun y => y = r a)))
    (q : k (.ol ((xs.filter f).map r))) : LcStep X B tg elt [tst] scope own is Γ k ds := by
  subst he
  refine ⟨fun j acc => acc = ((xs.take j).filter f).map r, by simp, by rw [List.length_map]; exact hz, fun j d acc hd ha s H C cl fp => ?_, fun acc ha => ?_⟩
  · rw [List.getElem?_map] at hd
    cases e : xs[j]? with
    | none => rw [e] at hd; cases hd
    | some a =>
      rw [e] at hd
      cases hd
      refine (step a (List.mem_of_getElem? e) s H C cl fp).mono fun Γ2 ⟨kt, kk⟩ s H C cl fp => ets_one ⟨fun σ G Hh Q o en cont => (kt s H C cl fp).run σ G Hh Q o en fun t G1 H1 g1 kt => cont t G1 H1 g1 ?_⟩
      have ha : acc = ((xs.take j).filter f).map r := ha
      subst kt
      cases ht : f a with
      | true =>
        rw [if_pos rfl]
        intro s H C cl fp
        refine ⟨fun σ G Hh Q o en cont => (kk ht s H C cl fp).run σ G Hh Q o en fun v G' H' r' g re kr => cont v G' H' r' g re ?_⟩
        have fin : ∀ y, y = r a → acc ++ [y] = ((xs.take (j + 1)).filter f).map r := fun y hy => by
          rw [ha, hy, List.take_succ, e, List.filter_append, List.map_append]
          simp [ht]
        cases r' with
        | d z => exact fin _ kr
        | ol z => exact fin _ kr
        | _ => exact kr
      | false =>
        rw [if_neg Bool.false_ne_true]
        show acc = ((xs.take (j + 1)).filter f).map r
        rw [ha, List.take_succ, e, List.filter_append, List.map_append]
        simp [ht]
  · have ha : acc = ((xs.take (xs.map enc).length).filter f).map r := ha
    rw [List.length_map, List.take_length] at ha
    rw [ha]
    exact q

/-- a <= b < c of ints, as a test -/
theorem et_chain {f : Bool → Prop} {a b c : Expr} {op op' : CmpOp} {g g' : Int → Int → Bool} (ho : OpR X (compareOp op) (rI0 fun i j => .bl (g i j))) (ho' : OpR X (compareOp op') (rI0 fun i j => .bl (g' i j)))
    (h : EvE X B a Γ (Sl.int fun i => EvE X B b Γ (Sl.int fun j => if g i j = true then EvE X B c Γ (Sl.int fun l => f (g' j l)) else f false))) (hm : lastMarks [op, op'] [b, c] = false := by with_unfolding_all rfl) :
    EvT X B (.Compare a [op, op'] [b, c] pos) Γ f :=
  ⟨fun σ G H Q o en cont => tT_of (pt_chain ho ho' pe_self pe_self pe_self hm) (h.run σ G H _ o en fun v G1 H1 r1 g1 re1 k1 => by
    obtain ⟨i, ei, q1⟩ := int_inv re1 k1
    refine q1.run σ G1 H1 _ g1.ok (en.grow g1) fun w G2 H2 r2 g2 re2 k2 => ?_
    obtain ⟨j, ej, q2⟩ := int_inv re2 k2
    refine ⟨i, j, ei, ej, _, rfl, ?_⟩
    cases hg : g i j with
    | true =>
      rw [hg, if_pos rfl] at q2
      rw [if_pos rfl]
      refine q2.run σ G2 H2 _ g2.ok ((en.grow g1).grow g2) fun u G3 H3 r3 g3 re3 k3 => ?_
      obtain ⟨l, el, q3⟩ := int_inv re3 k3
      exact ⟨j, l, ej, el, _, rfl, cont _ G3 H3 ((g1.trans g2).trans g3) q3⟩
    | false =>
      rw [hg, if_neg Bool.false_ne_true] at q2
      rw [if_neg Bool.false_ne_true]
      exact ⟨_, rfl, cont _ G2 H2 (g1.trans g2) q2⟩)⟩
theorem et_lele {f : Bool → Prop} {a b c : Expr} (h : EvE X B a Γ (Sl.int fun i => EvE X B b Γ (Sl.int fun j => if decide (i ≤ j) = true then EvE X B c Γ (Sl.int fun l => f (decide (j ≤ l))) else f false))) (hm : lastMarks [.LtE, .LtE] [b, c] = false := by with_unfolding_all rfl) :
    EvT X B (.Compare a [.LtE, .LtE] [b, c] pos) Γ f := et_chain (g := fun i j => decide (i ≤ j)) (g' := fun i j => decide (i ≤ j)) op_le op_le h hm
theorem et_lelt {f : Bool → Prop} {a b c : Expr} (h : EvE X B a Γ (Sl.int fun i => EvE X B b Γ (Sl.int fun j => if decide (i ≤ j) = true then EvE X B c Γ (Sl.int fun l => f (decide (j < l))) else f false))) (hm : lastMarks [.LtE, .Lt] [b, c] = false := by with_unfolding_all rfl) :
    EvT X B (.Compare a [.LtE, .Lt] [b, c] pos) Γ f := et_chain (g := fun i j => decide (i ≤ j)) (g' := fun i j => decide (i < j)) op_le op_lt h hm

/-- xs + ys, lists that are read -/
def rCatS (K : PySem.W.Frag) : R2 := fun x y H Q => ∃ (l b : Addr) (xs zs : List V), x = .ref l ∧ y = .ref b ∧ L2.SqL K H l xs ∧ L2.SqL K H b zs ∧ xs.length + zs.length ≤ sizeLine ∧ ∀ p, H p = none → Q (.ref p) (upd H p (.lst (xs ++ zs)))
theorem op_catS : OpR X (binaryOp .Add) (rCatS X.K) := by
  intro pins s σ H x y v u Q I rx ry h
  obtain ⟨l, b, xs, zs, rfl, rfl, hl, hb, hz, q⟩ := h
  cases rx
  cases ry
  obtain ⟨its, r, ⟨⟨c1, d1, t1, s1⟩, n1, e1, f1, f2, f3⟩, _⟩ := I.list hl
  obtain ⟨its2, r2, ⟨⟨c2, d2, t2, s2⟩, n2, e2, g1, g2, g3⟩, _⟩ := I.list hb
  dsimp only at f1 f2 f3 g1 g2 g3
  subst f1 f2 f3 g1 g2 g3
  refine PySem.concat_meets ⟨_, e1, rfl⟩ ⟨_, e2, rfl⟩ noFill_list_add seq_list_add PySem.F.slot_list_add PySem.F.entry_list_add (PySem.F.args_list_add_2 _ _)
    (PyProof.Rows.list_addW l b its.toArray its2.toArray n1 n2 none none s1 s2 (by rw [List.size_toArray, List.size_toArray, ← r.length, ← r2.length]; exact hz)) ⟨e1, e2, ?_⟩
  have ea : its.toArray ++ its2.toArray = (its ++ its2).toArray := by simp
  rw [ea]
  exact ⟨.ref _, _, I.laid (a := s.heap.objs.size) (o := .lst (xs ++ zs)) (t' := s.toks) (fun _ _ e => Heap.get?_push_of_some _ e) (Nat.le_refl _) ⟨by rw [List.length_append]; exact hz, _, 0, r.append r2, Heap.get?_push_size _ rfl⟩, rfl, q _ (I.hok.fresh (Nat.le_refl _))⟩
theorem ee_catLL {a b : Expr} (h : EvL X B a Γ fun xs => EvL X B b Γ fun ys => xs.length + ys.length ≤ 1000000 ∧ k (.ol (xs ++ ys))) : EvE X B (.BinOp a .Add b pos) Γ k :=
  ee_bop op_catS ⟨fun σ G H Q ok en cont => h.run σ G H _ ok en fun p xs G1 G' H' ds g e1 o1 sq da q1 => q1.run σ G' H' _ g.ok (en.grow g) fun p2 ys G3 G4 H4 es g2 e3 o3 sq2 da2 ⟨hlen, q2⟩ => by
    refine ⟨p, p2, xs, ys, rfl, rfl, sqL_ext (g2.keep o1) sq, sqL_ext o3.ex sq2, by rw [DpAll.length da, DpAll.length da2]; exact Nat.le_trans hlen (by decide), fun z hz => ?_⟩
    exact cont _ G4 _ (.ol (ds ++ es)) ((g.trans g2).trans (Grow.newOwn g2.ok hz _)) ⟨⟨z, _, rfl, g2.ok.notfree hz, g2.ok.ex.free hz, upd_same, DpAll.append (DpAll.ext g2.g _ _ da) da2⟩, fun _ p e => by cases e; exact (g.trans g2).free hz⟩ q2⟩
/-- xs[::-1] -/
theorem ee_revL {kk : Nat} {q1 q2 q3 : Pos} (h : EvL X B e Γ fun ds => k (.ol ds.reverse)) : EvE X B (.Subscript e (.Slice none none (some (.UnaryOp .USub (.Constant (.int 1) kk q1) q2)) q3) pos) Γ k :=
  ⟨fun σ G H Q ok en cont => tE_of (pe_revL pe_self) (h.run σ G H _ ok en fun p xs G1 G' H' ds g e1 o1 sq da q => ⟨p, xs, rfl, sqL_ext o1.ex sq, fun z hz =>
    cont _ G' _ (.ol ds.reverse) (g.trans (Grow.newOwn g.ok hz _)) ⟨⟨z, _, rfl, g.ok.notfree hz, g.ok.ex.free hz, upd_same, DpAll.reverse da⟩, fun _ p e => by cases e; exact g.free hz⟩ q⟩)⟩
end
end Ab
/-! lambdas: made, called for a key -/
namespace Ab
open PySem PySem.Spec L2 LamX
def LamO (f : Addr) (o : Obj) : HO := .ext fun h => h.get? f = some o
abbrev lamObj (q : Str) (params : Arguments) (body : Expr) (scope : Scope) (pm : Value) (c' : Addr) (ctv : Value) : Obj := PySem.W.kla_obj "<lambda>" q params body scope [] pm c' ctv
section
variable {X : Cx} {B : Bg} {Γ : List Sl} {params : Arguments} {body : Expr} {scope : Scope} {pos : Pos} {q : Str} {c P : Addr}
theorem upd_get {H : Hp} {a b : Addr} {o u : HO} (h : H b = some u) (hn : H a = none) : upd H a o b = some u := by rw [upd_ne (ne_of_none h hn)]; exact h
/-- a lambda as a value: a new function, its code object known -/
theorem tE_lam (TB : TabB X.base X.mg c P) (hcode : X.env.code = .ref c) (hq : X.env.qual ++ "<lambda>" = q) (hdef : defaultsOf params X.env = ([], [])) (hfree : ∀ y ∈ scope.names, y.2 = .free → ∃ c, X.env.cells.lookup y.1 = some c) (hcl : cloFrom X.env.cells scope.names [] = [])
    {σ : L2.St} {G H : Hp} {Q : VK} (ok : Ok B G H) (hP : (P, q) ∈ B.tabs) (hu : ∀ p ∈ B.tabs, p.1 = P → p.2 = q)
    (cont : ∀ (f c' : Addr) (pm ctv : Value) (G' H' : Hp), Grow B G H G' H' → G' f = some (LamO f (lamObj q params body scope pm c' ctv)) → G' c' = some (CodeO c' q) → Q (.ref f) H') : tE X (.Lambda params body scope pos) σ H Q := by
  intro pins s I
  obtain ⟨gP, ps, hps, htr, hcs⟩ := ok.tab _ hP
  refine PySem.W.kla_eval hdef ?_
  rw [hq]
  have bP : s.heap.BuiltinsAt X.mg P := TB.bm.keeps I.bk
  have oP : s.heap.get? P = some { cls := .none, data := .fields ps } := I.hok P _ hps
  cases hc : codeAmong pos ps.toList with
  | none =>
    refine PySem.W.kla_makeFunction (mg := X.mg) (c := c) (P := P) (ps := ps) (closure_ok hfree) I.ok.glob (I.mod.glob.keeps I.bk) hcode (TB.code.keeps I.bk) oP htr hc TB.gP bP fun c' ctv h' tk hx hge hlt hrec htb => ?_
    rw [hcl]
    obtain ⟨_, co, fs, t, ⟨⟩, hco, hd, hv⟩ := hrec
    have nC : H c' = none := I.hok.fresh hge
    have I1 := inv_table (t' := tk) (more := #[rawInt pos.line, rawInt pos.col, .ref c']) (h' := h') I hps hx htb hge ⟨co, fs, t, hco, hd, hv⟩
    have hsz : s.heap.objs.size ≤ h'.objs.size := by omega
    have nF : H h'.objs.size = none := I.hok.fresh hsz
    have nfc : h'.objs.size ≠ c' := Nat.ne_of_gt hlt
    have nPc : P ≠ c' := ne_of_none hps nC
    have nPf : P ≠ h'.objs.size := ne_of_none hps nF
    obtain ⟨H1, e1⟩ : ∃ H1, upd (upd H P (.tbl (ps ++ #[rawInt pos.line, rawInt pos.col, .ref c']))) c' (CodeO c' q) = H1 := ⟨_, rfl⟩
    rw [e1] at I1
    have f1 : H1 h'.objs.size = none := I1.hok.fresh (Nat.le_refl _)
    obtain ⟨o, eo⟩ : ∃ o, PySem.W.kla_obj "<lambda>" q params body scope [] ((X.mg "__name__").getD .none) c' ctv = o := ⟨_, rfl⟩
    rw [eo]
    have I2 := I1.laid (a := h'.objs.size) (o := LamO h'.objs.size o) (t' := tk) (h' := h'.push o) (fun b u e => Heap.get?_push_of_some _ e) (Nat.le_refl _)
      ⟨Heap.get?_push_size _ (by rw [← eo]; rfl), ⟨_, Heap.get?_push_size _ (by rw [← eo]; rfl)⟩, fun h1 h2 a b => b _ a⟩
    refine ⟨.ref h'.objs.size, _, I2, rfl, cont h'.objs.size c' ((X.mg "__name__").getD .none) ctv (upd (upd G c' (CodeO c' q)) h'.objs.size (LamO h'.objs.size o)) _ ?_ ?_ ?_⟩
    · have at1 : ∀ a, a ≠ P → a ≠ c' → H1 a = H a := fun a h1 h2 => by rw [← e1, upd_ne h2, upd_ne h1]
      have atc : H1 c' = some (CodeO c' q) := by rw [← e1, upd_same]
      have atP : H1 P = some (.tbl (ps ++ #[rawInt pos.line, rawInt pos.col, .ref c'])) := by rw [← e1, upd_ne nPc, upd_same]
      have bP' : B P := .inr ⟨q, hP⟩
      have gf : G h'.objs.size = none := ok.ex.free nF
      have gc : G c' = none := ok.ex.free nC
      have gcf : upd G c' (CodeO c' q) h'.objs.size = none := by rw [upd_ne nfc]; exact gf
      have eg : Ext G (upd (upd G c' (CodeO c' q)) h'.objs.size (LamO h'.objs.size o)) := (Ext.new gc).trans (Ext.new gcf)
      have hh : ∀ a u, a ≠ P → H a = some u → upd H1 h'.objs.size (LamO h'.objs.size o) a = some u := fun a u na e => by
        rw [upd_ne (ne_of_none e nF), at1 a na (ne_of_none e nC)]
        exact e
      refine ⟨eg, fun a u na e => hh a u (fun z => na (z ▸ bP')) e, fun a u e z => ?_, ⟨fun a u e => ?_, fun b hb => ?_, fun t ht => ?_⟩⟩
      · rw [upd_ne (ne_of_none e nF), upd_ne (ne_of_none e nC)]; exact z
      · by_cases h1 : a = h'.objs.size
        · subst h1; rw [upd_same] at e ⊢; exact e
        · rw [upd_ne h1] at e ⊢
          by_cases h2 : a = c'
          · subst h2; rw [upd_same] at e; rw [atc]; exact e
          · rw [upd_ne h2] at e
            have := ok.ex a u e
            rw [at1 a (fun z => by rw [z, gP] at e; cases e) h2]
            exact this
      · obtain ⟨z, dl, i, ns, e3, e4, r⟩ := ok.bag b hb
        have nbP : b ≠ P := fun z => by rw [z, hps] at e3; cases e3
        exact ⟨by rw [upd_ne (ne_of_none e3 nF), upd_ne (ne_of_none e3 nC)]; exact z, dl, i, ns, hh b _ nbP e3, eg _ _ e4, r⟩
      · obtain ⟨z, y⟩ := ok.tab t ht
        obtain ⟨ps2, y1⟩ := y.some
        refine ⟨by rw [upd_ne (ne_of_none y1 nF), upd_ne (ne_of_none y1 nC)]; exact z, ?_⟩
        by_cases hb : t.1 = P
        · rw [hu t ht hb, hb]
          have eL : (ps ++ #[rawInt pos.line, rawInt pos.col, .ref c']).toList = ps.toList ++ [rawInt pos.line, rawInt pos.col, .ref c'] := by simp
          refine ⟨ps ++ #[rawInt pos.line, rawInt pos.col, .ref c'], by rw [upd_ne nPf]; exact atP, by rw [eL]; exact PySem.TriplesOk_snoc _ _ _ _ htr, fun p' cv hcv => ?_⟩
          rw [eL] at hcv
          rcases among_app _ htr hcv with z | z
          · obtain ⟨c0, e3, e4⟩ := hcs p' cv z
            exact ⟨c0, e3, eg _ _ e4⟩
          · exact ⟨c', z, by rw [upd_ne nfc.symm, upd_same]⟩
        · exact y.mono eg (by rw [upd_ne (ne_of_none y1 nF), at1 _ hb (ne_of_none y1 nC)])
    · rw [upd_same, ← eo]
    · rw [upd_ne nfc.symm, upd_same]
  | some cv =>
    obtain ⟨c', e, hco⟩ := hcs pos cv hc
    subst e
    refine PySem.W.kla_makeFunctionHit (mg := X.mg) (c := c) (P := P) (ps := ps) (closure_ok hfree) I.ok.glob (I.mod.glob.keeps I.bk) hcode (TB.code.keeps I.bk) oP htr hc bP fun ctv h' tk hx hsz => ?_
    rw [hcl]
    have nF : H h'.objs.size = none := I.hok.fresh hsz
    obtain ⟨o, eo⟩ : ∃ o, PySem.W.kla_obj "<lambda>" q params body scope [] ((X.mg "__name__").getD .none) c' ctv = o := ⟨_, rfl⟩
    have e2 : ({ cls := .type "function", data := .func (PySem.W.kla_fn "<lambda>" q params body scope [] ((X.mg "__name__").getD .none) (.ref c') ctv) } : Obj) = o := eo
    rw [e2]
    have I2 := I.laid (a := h'.objs.size) (o := LamO h'.objs.size o) (t' := tk) (h' := h'.push o) (fun b u e => Heap.get?_push_of_some _ (hx b u e)) hsz
      ⟨Heap.get?_push_size _ (by rw [← eo]; rfl), ⟨_, Heap.get?_push_size _ (by rw [← eo]; rfl)⟩, fun h1 h2 a b => b _ a⟩
    have gn := Grow.new ok nF (LamO h'.objs.size o)
    exact ⟨.ref h'.objs.size, _, I2, rfl, cont h'.objs.size c' ((X.mg "__name__").getD .none) ctv _ _ gn (by rw [upd_same, ← eo]) (gn.g _ _ hco)⟩
end
/-! ### a lambda of one parameter called for a key -/
open PyProof.Rows (IsTup subscriptTail_builtinR getItem_tuple envOfC)
theorem look1 (x : Str) (v : Value) : [(x, v)].lookup x = some v := by simp [List.lookup]
section
variable {prog : Program} {w : World} {A : Around} {E : Value → Shared → Prop} {s : Shared}
abbrev lamEnv1 (q : Str) (scope : Scope) (L f c' : Addr) : Env := PySem.W.envX q scope L f (.ref c') []
theorem lam_key {f c' : Addr} {q x : Str} {params : Arguments} {body : Expr} {scope : Scope} {pm ctv v : Value} {k : PyData} (ho : s.heap.get? f = some (lamObj q params body scope pm c' ctv)) (hcd : s.heap.CodeRec (.ref c') q) (hroom : A.depth < recursionLimit) (hlim : s.heap.NoLimit)
    (hb : bindArgs (PySem.W.kla_fn "<lambda>" q params body scope [] pm (.ref c') ctv) ⟨[v], []⟩ = pure [(x, v)]) (hx : scope.names.lookup x = some .local) (hco : scope.isCoroutine = false) (hgen : scope.isGenerator = false) (hk : scope.kind = .function) (hcell : ∀ y ∈ scope.names, y.2 ≠ .cell)
    (hbody : ∀ (A1 : Around) (L : Addr) (h1 : Heap) (tk : Nat), (∀ b o, s.heap.get? b = some o → h1.get? b = some o) → h1.Ns L (fun y => [(x, v)].lookup y) →
      wpAny (model prog w) A1 (eval body (lamEnv1 q scope L f c')) (fun u s' => ∃ h' tk', s' = { s with heap := h', toks := tk' } ∧ (∀ b o, h1.get? b = some o → h'.get? b = some o) ∧ Reads h' u k []) (fun _ _ => False) { s with heap := h1, toks := tk }) :
    wpAny (model prog w) A (call (.ref f) [v]) (PySem.W.KeyPure k s) (fun _ _ => False) s := by
  refine wpAny_call (PySem.W.kla_callFunE hroom ho rfl hco hgen rfl hcd ?_)
  rw [hb]
  refine wpAny_pure (wpAny_newFunctionEnv hcell (fun y hy => ?_) (fun h1 hns hsb => ⟨hlim.fresh _ hsb, ?_⟩) hk)
  · rw [List.mem_singleton.mp hy]; exact hx
  have hkeep : ∀ b o, s.heap.get? b = some o → h1.get? b = some o := fun b o e => hsb.extBut b o (Nat.ne_of_lt (Heap.lt_size e)) (Heap.get?_push_of_some _ e)
  refine PySem.W.kla_codeExpr (wpAny_mono (hbody _ s.heap.objs.size h1 _ hkeep hns) (fun u s' ⟨h', tk', e, k1, r⟩ => ?_) fun e s' h => h.elim)
  exact ⟨h', tk', e, fun b o z => k1 b o (hkeep b o z), r⟩
/-- the body one[1] -/
theorem lam_ix1 {A1 : Around} {q x : Str} {scope : Scope} {L f c' p : Addr} {its : Array Value} {i : Int} {t tk : Nat} {h1 : Heap} {p1 p2 p3 : Pos} {j} (hk : scope.kind = .function) (hx : scope.names.lookup x = some .local)
    (hns : h1.Ns L (fun y => [(x, Value.ref p)].lookup y)) (ht : IsTup h1 p its) (hi : its[1]? = some (.int i t)) (hz : its.size < 2 ^ 63) (hd : (x == ("__debug__" : Str)) = false) :
    wpAny (model prog w) A1 (eval (.Subscript (.Name x p1) (.Constant (.int 1) j p2) p3) (lamEnv1 q scope L f c')) (fun u s' => ∃ h' tk', s' = { s with heap := h', toks := tk' } ∧ (∀ b o, h1.get? b = some o → h'.get? b = some o) ∧ Reads h' u (.int i) []) (fun _ _ => False) { s with heap := h1, toks := tk } := by
  have h1z : 1 < its.size := (Array.getElem?_eq_some_iff.mp hi).1
  refine PyProof.Rows.Subscript_ (wpAny_Name (wpAny_loadName_local (v := .ref p) hk hx hns (look1 x _) (wpAny_Constant_int ?_)) hd)
  have htt : IsTup (Shared.heap { s with heap := h1, toks := tk + 1 }) p its := ht
  refine subscriptTail_builtinR (x := .int i t) htt.typeIs PyProof.Rows.slot_tuple_getitem.lookup (getItem_tuple (j := 1) htt (by decide) (by decide) ?_ hi ⟨rfl, ⟨h1, tk + 1, rfl, fun _ _ e => e, .int i t⟩⟩)
  exact seqIndex_of (by decide) (by omega)

theorem readsAll_ints {h : Heap} : ∀ {vs : List Value} {ns : List Int}, PyProof.Rows.IntsAre vs ns → ReadsAll h vs (ns.map .int) []
  | _, _, .nil => .nil
  | _, _, .cons n t r => ReadsAll.cons (as := []) (bs := []) (.int n t) (readsAll_ints r)
/-- the body (len(lot), lot) -/
theorem lam_lenPair {A1 : Around} {q x : Str} {scope : Scope} {L f c' p : Addr} {its : List Value} {ns : List Int} {tk kk : Nat} {h1 : Heap} {mg mb : Str → Option Value} {p1 p2 p3 p4 p5 : Pos} (hk : scope.kind = .function) (hx : scope.names.lookup x = some .local)
    (hg : scope.names.lookup ("len" : Str) = some .globalImplicit) (hG : h1.Ns mainGlobals mg) (hm : mg "len" = none) (hB : h1.Ns builtinsNs mb) (hb : mb "len" = some (.builtin "len"))
    (hns : h1.Ns L (fun y => [(x, Value.ref p)].lookup y)) (ht : IsTup h1 p its.toArray) (hi : PyProof.Rows.IntsAre its ns) (hz : ns.length ≤ 1000000) (hd : (x == ("__debug__" : Str)) = false) :
    wpAny (model prog w) A1 (eval (.Tuple [.Call (.Name "len" p1) [.Name x p2] [] p3, .Name x p4] kk p5) (lamEnv1 q scope L f c')) (fun u s' => ∃ h' tk', s' = { s with heap := h', toks := tk' } ∧ (∀ b o, h1.get? b = some o → h'.get? b = some o) ∧ Reads h' u (.tuple [.int (ns.length : Int), .tuple (ns.map .int)]) []) (fun _ _ => False) { s with heap := h1, toks := tk } := by
  have hl := hi.length
  have hfit : ((its.toArray.size : Nat) : Int) < 2 ^ 63 := by rw [List.size_toArray, hl]; omega
  have loc : ∀ {Q : Value → Shared → Prop} {s1 : Shared} {pp : Pos}, s1.heap = h1 → Q (.ref p) s1 → wpAny (model prog w) A1 (eval (.Name x pp) (lamEnv1 q scope L f c')) Q (fun _ _ => False) s1 := fun {Q s1 pp} e h =>
    wpAny_Name (wpAny_loadName_local (v := .ref p) hk hx (by rw [e]; exact hns) (look1 x _) h) hd
  have hsp : starEach [.Call (.Name "len" p1) [.Name x p2] [] p3, .Name x p4] (lamEnv1 q scope L f c') = (false, eval (.Call (.Name "len" p1) [.Name x p2] [] p3) (lamEnv1 q scope L f c')) :: (false, eval (.Name x p4) (lamEnv1 q scope L f c')) :: [] := rfl
  refine wpAny_Tuple_spliced ?_
  rw [hsp]
  refine Calls.spliced_cons ?_
  refine wpAny_Call_Name_kw (Calls.Name_function_global hk hg (Calls.loadGlobal_builtin hG hm hB hb ?_))
  refine PyProof.Rows.callWith_builtin1 ?_
  show wpAny _ _ (spliced ((false, eval (.Name x p2) (lamEnv1 q scope L f c')) :: [])) _ _ _
  refine Calls.spliced_cons (loc rfl (Calls.spliced_nil ?_))
  have htt : IsTup (Shared.heap { s with heap := h1, toks := tk }) p its.toArray := ht
  refine PyProof.Rows.len_tuple htt hfit ?_
  refine Calls.spliced_cons (loc rfl (Calls.spliced_nil ⟨by show 2 ≤ sizeLine; decide, ?_⟩))
  refine ⟨_, _, rfl, fun b o e => Heap.get?_push_of_some _ e, ?_⟩
  obtain ⟨o, ho, hc, n, hd2⟩ := ht
  have r2 : Reads (h1.push { cls := .type "tuple", data := .seq [Value.int (its.toArray.size : Int) (tk + 1), .ref p].toArray }) (.ref p) (.tuple (ns.map .int)) [] := .tuple (Heap.get?_push_of_some _ ho) hc hd2 (by rw [List.toList_toArray]; exact readsAll_ints hi)
  have e1 : ((its.toArray.size : Nat) : Int) = (ns.length : Int) := by rw [List.size_toArray, hl]
  have r3 : ReadsAll (h1.push { cls := .type "tuple", data := .seq [Value.int (its.toArray.size : Int) (tk + 1), .ref p].toArray }) [Value.int (its.toArray.size : Int) (tk + 1), .ref p] [.int (ns.length : Int), .tuple (ns.map .int)] [] := by
    rw [← e1]
    exact ReadsAll.cons (as := []) (bs := []) (.int _ _) (ReadsAll.cons (as := []) (bs := []) r2 .nil)
  exact .tuple (Heap.get?_push_size _ rfl) rfl rfl (by rw [List.toList_toArray]; exact r3)
end
/-! ### sorted(lots, key=lambda lot: (len(lot), lot)) -/
def lotKey (l : List Int) : PyData := .tuple [.int (l.length : Int), .tuple (l.map .int)]
def sortLots (ls : List (List Int)) : List (List Int) := ls.mergeSort (PySem.W.dataLe false lotKey)
theorem lots_alike {β : Type} (g : β → List Int) (ls : List β) : PySem.W.AllAlike (ls.map fun b => lotKey (g b)) := PySem.W.AllAlike.of fun a b => by
  have h := PySem.W.alike_ints (g a) (g b)
  unfold lotKey
  simp only [PySem.W.alike, PySem.W.alikeAll, h, Bool.and_true]
theorem lots_sortable {β : Type} (g : β → List Int) (ls : List β) : PySem.W.Sortable (ls.map fun b => lotKey (g b)) := PySem.W.Sortable.tuples fun b => ⟨_, _, rfl⟩
theorem lot_depth (l : List Int) : (lotKey l).depth ≤ 2 := by
  have h := PySem.W.depth_ints l
  unfold lotKey
  simp only [PyData.depth, PyData.depthAll, h]
  omega
/-- a lambda of one parameter that stands ready -/
def LamAt (H : Hp) (f : Addr) (q : Str) (params : Arguments) (body : Expr) (scope : Scope) : Prop := ∃ (c' : Addr) (pm ctv : Value), H f = some (LamO f (lamObj q params body scope pm c' ctv)) ∧ H c' = some (CodeO c' q)
structure Lam1 (x : Str) (params : Arguments) (body : Expr) (scope : Scope) : Prop where
  bind : ∀ (q : Str) (pm ctv v : Value) (c' : Addr), bindArgs (PySem.W.kla_fn "<lambda>" q params body scope [] pm (.ref c') ctv) ⟨[v], []⟩ = pure [(x, v)]
  loc : scope.names.lookup x = some .local
  co : scope.isCoroutine = false
  gen : scope.isGenerator = false
  kind : scope.kind = .function
  cell : ∀ y ∈ scope.names, y.2 ≠ .cell
  dbg : (x == ("__debug__" : Str)) = false
section
variable {X : Cx} {pins : List (Addr × Obj)} {σ : L2.St} {H : Hp} {s : Shared}
/-- such a lambda is called for the key k, behind all that was there -/
theorem lam_turn {A1 : Around} {f : Addr} {q x : Str} {params : Arguments} {body : Expr} {scope : Scope} {v : Value} {k : PyData} {h : Heap} {tk : Nat} (I : Inv X pins σ H s) (L : LamAt H f q params body scope) (S : Lam1 x params body scope) (hroom : A1.depth < recursionLimit) (keep : ∀ b o, s.heap.get? b = some o → h.get? b = some o)
    (hbody : ∀ (f c' : Addr) (A2 : Around) (L : Addr) (h1 : Heap) (tk : Nat), (∀ b o, s.heap.get? b = some o → h1.get? b = some o) → h1.Ns L (fun y => [(x, v)].lookup y) →
      wpAny (model X.prog X.w) A2 (eval body (lamEnv1 q scope L f c')) (fun u s' => ∃ h' tk', s' = { s with heap := h', toks := tk' } ∧ (∀ b o, h1.get? b = some o → h'.get? b = some o) ∧ Reads h' u k []) (fun _ _ => False) { s with heap := h1, toks := tk }) :
    wpAny (model X.prog X.w) A1 (call (.ref f) [v]) (PySem.W.KeyPure k { s with heap := h, toks := tk }) (fun _ _ => False) { s with heap := h, toks := tk } := by
  obtain ⟨c', pm, ctv, hf, hc⟩ := L
  obtain ⟨of_, _, _⟩ := I.hok f _ hf
  obtain ⟨⟨oc, vs, t, hoc, hd, hv⟩, _, _⟩ := I.hok c' _ hc
  exact lam_key (s := { s with heap := h, toks := tk }) (keep _ _ of_) ⟨c', oc, vs, t, rfl, keep _ _ hoc, hd, hv⟩ hroom (I.nolimit.keeps keep) (S.bind _ _ _ _ _) S.loc S.co S.gen S.kind S.cell fun A2 L h1 tk1 k1 hns => hbody f c' A2 L h1 tk1 (fun b o e => k1 b o (keep b o e)) hns
def rSortLots (K : PySem.W.Frag) (q : Str) (params : Arguments) (body : Expr) (scope : Scope) : List V → List V → Hp → VK → Prop := fun vs zs H Q => ∃ (a f : Addr) (xs : List V) (ls : List (List Int)), vs = [.ref a] ∧ zs = [.ref f] ∧ LamAt H f q params body scope ∧ L2.SqL K H a xs ∧
  Paired (fun v l => ∃ t, v = V.ref t ∧ SqT K H t (l.map V.int)) xs ls ∧ ls.length ≤ 1000000 ∧ (∀ l ∈ ls, l.length ≤ 1000000) ∧
  ∀ p (bs : List (V × List Int)), H p = none → bs.Perm (xs.zip ls) → bs.map (·.2) = sortLots ls → Q (.ref p) (upd H p (.lst (bs.map (·.1))))
theorem cr_sortLots {k0 kk : Nat} {q x : Str} {params : Arguments} {scope : Scope} {p1 p2 p3 p4 p5 : Pos} (S : Lam1 x params (.Tuple [.Call (.Name "len" p1) [.Name x p2] [] p3, .Name x p4] kk p5) scope) (hg : scope.names.lookup ("len" : Str) = some .globalImplicit) (hm : X.mg "len" = none) (hr : Room k0 X.A) :
    CallRK X (.builtin "sorted") [Str.ofString "key"] (rSortLots X.K q params (.Tuple [.Call (.Name "len" p1) [.Name x p2] [] p3, .Name x p4] kk p5) scope) := by
  intro pins s σ H vs zs us ws Q I r rz h
  obtain ⟨a, f, xs, ls, rfl, rfl, L, hs, hp, hz1, hz2, cont⟩ := h
  rw [Vals.ref1 r]
  obtain ⟨w1, rfl, e1⟩ := vals1 rz
  obtain rfl : w1 = Value.ref f := e1
  obtain ⟨its, rv, pl, hz⟩ := I.list hs
  have each : ∀ {xs : List V} {ls : List (List Int)} {its : List Value}, Paired (fun v l => ∃ t, v = V.ref t ∧ SqT X.K H t (l.map V.int)) xs ls → Vals xs its → PySem.W.EachIs (fun (u : Value) (b : V × List Int) => RelV b.1 u ∧ ∃ t, b.1 = V.ref t ∧ SqT X.K H t (b.2.map V.int)) its (xs.zip ls) := by
    intro xs ls its h
    induction h generalizing its with
    | nil => intro r; cases r; exact .nil
    | cons a _ ih =>
      intro r
      cases r with
      | cons r1 r2 => exact .cons ⟨r1, a⟩ (ih r2)
  have e := each hp rv
  have hzl : (xs.zip ls).length = ls.length := by rw [List.length_zip, Paired.length hp, Nat.min_self]
  have hline : (1000000 : Nat) ≤ sizeLine := by decide
  obtain ⟨mb, hb1, hb2⟩ := I.mod.blt
  refine PySem.W.sorted_key_data (b := false) (k := fun b : V × List Int => lotKey b.2) pl.isList e (lots_alike _ _) (lots_sortable _ _) (by rw [hzl]; exact Nat.le_trans hz1 hline) (fun b _ => ?_) (PyProof.Rows.ksk_s1 _ _) (fun _ => PyProof.Rows.ksk_l1 _ _) (fun _ => PyProof.Rows.ksk_t1 _ _) (fun v b hR hb h tk keep => ?_) fun out c h' tk keep fresh hD hlen hout => ?_
  · have := lot_depth b.2
    have := hr.units
    omega
  · obtain ⟨r1, t, et, ht⟩ := hR
    rw [et] at r1
    obtain rfl : v = Value.ref t := r1
    refine lam_turn (x := x) I L S hr.depth keep fun f c' A2 L h1 tk1 k1 hns => ?_
    obtain ⟨its2, rv2, pt, hz3⟩ := I.tuple ht.up
    have hl2 : b.2.length ≤ 1000000 := hz2 b.2 (List.of_mem_zip hb).2
    exact lam_lenPair S.kind S.loc hg ((I.mod.glob.keeps I.bk).keeps k1) hm ((hb1.keeps I.bk).keeps k1) ((hb2 "len" (by decide)).trans boot_len) hns (pt.keeps k1) rv2.ints hl2 S.dbg
  · have hvals : ∀ {out : List Value} {bs : List (V × List Int)}, PySem.W.EachIs (fun (u : Value) (b : V × List Int) => RelV b.1 u ∧ ∃ t, b.1 = V.ref t ∧ SqT X.K H t (b.2.map V.int)) out bs → Vals (bs.map (·.1)) out := by
      intro out bs h
      induction h with
      | nil => exact .nil
      | cons a _ ih => exact .cons a.1 ih
    have hv := hvals hout
    have hfree : H (s.heap.objs.size + 1) = none := I.hok.fresh (Nat.le_succ _)
    have hlen2 : (((xs.zip ls).mergeSort (PySem.W.dataLe false fun b : V × List Int => lotKey b.2)).map (·.1)).length ≤ sizeLine := by
      rw [List.length_map, List.length_mergeSort, hzl]
      exact Nat.le_trans hz1 hline
    refine ⟨.ref (s.heap.objs.size + 1), _, I.laid (a := s.heap.objs.size + 1) (o := .lst (((xs.zip ls).mergeSort (PySem.W.dataLe false fun b : V × List Int => lotKey b.2)).map (·.1))) (t' := tk) keep (Nat.le_succ _) ⟨hlen2, out, c, hv, hD⟩, rfl, cont _ _ hfree (List.mergeSort_perm _ _) ?_⟩
    unfold sortLots
    refine (PySem.W.sort_maps (s := PySem.W.dataLe false lotKey) (f := fun b : V × List Int => b.2) (fun _ _ _ _ => rfl)).trans ?_
    congr 1
    have : ∀ {xs : List V} {ls : List (List Int)}, Paired (fun v l => ∃ t, v = V.ref t ∧ SqT X.K H t (l.map V.int)) xs ls → (xs.zip ls).map (·.2) = ls := by
      intro xs ls h
      induction h with
      | nil => rfl
      | cons _ _ ih => simp [ih]
    exact this hp
end
/-! ### in a def -/
/-- here a lambda of the name q can be made -/
def LamHere (X : Cx) (q : Str) : Prop := ∃ c p : Addr, TabB X.base X.mg c p ∧ X.env.code = .ref c ∧ X.env.qual ++ "<lambda>" = q ∧ (p, q) ∈ lamTabs X.K ∧ ∀ t ∈ lamTabs X.K, t.1 = p → t.2 = q
section
variable {X : Cx} {B : Bg} {Γ : List Sl} {k : Sl → Prop} {e : Expr} {pos p1 : Pos}
/-- a lambda without captured names -/
structure LamFree (X : Cx) (params : Arguments) (scope : Scope) : Prop where
  dfl : defaultsOf params X.env = ([], [])
  free : ∀ y ∈ scope.names, y.2 ≠ .free
theorem clo_nil {cells : List (Str × Addr)} : ∀ {names : List (Str × NameKind)}, (∀ y ∈ names, y.2 ≠ .free) → cloFrom cells names [] = []
  | [], _ => rfl
  | (y, t) :: r, h => by
    have h1 := h (y, t) List.mem_cons_self
    have ih := clo_nil (cells := cells) (names := r) fun z hz => h z (List.mem_cons_of_mem _ hz)
    cases t <;> first | exact absurd rfl h1 | exact ih
theorem lam_here {params : Arguments} {body : Expr} {scope : Scope} {lpos : Pos} {q : Str} {σ : L2.St} {G H : Hp} {Q : VK} (L : LamHere X q) (F : LamFree X params scope) (ok : Ok B G H) (en : EnvOk X.K B G H σ Γ)
    (cont : ∀ (f : Addr) (G' H' : Hp), Grow B G H G' H' → LamAt G' f q params body scope → Q (.ref f) H') : tE X (.Lambda params body scope lpos) σ H Q := by
  obtain ⟨c, p, TB, hcode, hq, hp, hu⟩ := L
  exact tE_lam TB hcode hq F.dfl (fun y hy e => absurd e (F.free y hy)) (clo_nil F.free) ok (by rw [en.tt]; exact hp) (by rw [en.tt]; exact hu) fun f c' pm ctv G' H' g h1 h2 => cont f G' H' g ⟨c', pm, ctv, h1, h2⟩
theorem LamAt.ext {G G' : Hp} {f : Addr} {q : Str} {params : Arguments} {body : Expr} {scope : Scope} (h : LamAt G f q params body scope) (e : Ext G G') : LamAt G' f q params body scope := by
  obtain ⟨c', pm, ctv, h1, h2⟩ := h
  exact ⟨c', pm, ctv, e _ _ h1, e _ _ h2⟩
/-- sorted(e, key=lambda lot: (len(lot), lot)) -/
theorem ee_sortLots {k0 kk : Nat} {q x : Str} {params : Arguments} {scope : Scope} {p2 p3 p4 p5 p6 lpos kpos : Pos} (L : LamHere X q) (F : LamFree X params scope) (S : Lam1 x params (.Tuple [.Call (.Name "len" p2) [.Name x p3] [] p4, .Name x p5] kk p6) scope) (hlg : scope.names.lookup ("len" : Str) = some .globalImplicit)
    (hm : X.mg "sorted" = none) (hml : X.mg "len" = none) (hr : Room k0 X.A)
    (h : EvL X B e Γ fun ds => ∃ ls : List (List Int), ds = ls.map (fun l => .tuple (l.map .int)) ∧ ls.length ≤ 1000000 ∧ (∀ l ∈ ls, l.length ≤ 1000000) ∧ k (.ol ((sortLots ls).map fun l => .tuple (l.map .int))))
    (hg : Gl X "sorted" := by rfl) (he : backTo pos (starEach [e] X.env) = (false, eval e X.env) :: backTo pos (starEach [] X.env) := by rfl) (hpl : (backTo pos (starEach [e] X.env)).any (·.1) = false := by rfl)
    (he2 : starEach [e] X.env = (false, eval e X.env) :: starEach [] X.env := by rfl)
    (hall : (backToKw pos (keywordEach [⟨some (Str.ofString "key"), .Lambda params (.Tuple [.Call (.Name "len" p2) [.Name x p3] [] p4, .Name x p5] kk p6) scope lpos, kpos⟩] X.env)).all (·.1.isSome) = true := by rfl)
    (hnone : (backToKw pos (keywordEach [⟨some (Str.ofString "key"), .Lambda params (.Tuple [.Call (.Name "len" p2) [.Name x p3] [] p4, .Name x p5] kk p6) scope lpos, kpos⟩] X.env)).any (·.1.isNone) = false := by rfl)
    (hks : (backToKw pos (keywordEach [⟨some (Str.ofString "key"), .Lambda params (.Tuple [.Call (.Name "len" p2) [.Name x p3] [] p4, .Name x p5] kk p6) scope lpos, kpos⟩] X.env)).filterMap (·.1) = [Str.ofString "key"] := by rfl) :
    EvE X B (.Call (.Name "sorted" p1) [e] [⟨some (Str.ofString "key"), .Lambda params (.Tuple [.Call (.Name "len" p2) [.Name x p3] [] p4, .Name x p5] kk p6) scope lpos, kpos⟩] pos) Γ k :=
  ⟨fun σ G H Q ok en cont => tE_of (pe_callBK (cr_sortLots S hlg hml hr) hg hm boot_sorted (pa_cons pe_self pa_nil he2) (pk_cons pe_self pk_nil) (by decide) (by decide) he hpl hall hnone hks) (h.run σ G H _ ok en fun p xs G1 G' H' ds g e1 o1 sq da ⟨ls, ed, hz1, hz2, q⟩ => by
    subst ed
    refine lam_here (B := B) L F g.ok (en.grow g) fun f G2 H2 g2 la => ?_
    have g02 := g.trans g2
    have eG1 : Ext G1 H2 := g2.keep o1
    have pr : ∀ {xs : List V} {ls : List (List Int)}, DpAll X.K G' xs (ls.map fun l => .tuple (l.map .int)) → Paired (fun v l => ∃ t, v = V.ref t ∧ SqT X.K G' t (l.map V.int)) xs ls := by
      intro xs ls
      induction ls generalizing xs with
      | nil => intro h; cases h; exact .nil
      | cons l r ih =>
        intro h
        cases h with
        | cons h1 h2 =>
          obtain ⟨t, ys, ev, hs, ha⟩ := Dp.tup_inv h1
          rw [DpAll.ints_inv ha] at hs
          exact .cons ⟨t, ev, hs⟩ (ih h2)
    have pp := pr da
    refine ⟨p, f, xs, ls, rfl, rfl, la.ext g2.ok.ex, sqL_ext eG1 sq, Paired.mapP pp (fun v l ⟨t, ev, hs⟩ => ⟨t, ev, SqT.ext (g2.g.trans g2.ok.ex) hs⟩), hz1, hz2, fun z bs hz hperm hsnd => ?_⟩
    refine cont _ G2 _ (.ol ((sortLots ls).map fun l => .tuple (l.map .int))) (g02.trans (Grow.newOwn g2.ok hz _)) ⟨⟨z, _, rfl, g2.ok.notfree hz, g2.ok.ex.free hz, upd_same, ?_⟩, fun _ p e => by cases e; exact g02.free hz⟩ q
    rw [← hsnd, List.map_map]
    have each : ∀ b ∈ bs, Dp X.K G2 b.1 (.tuple (b.2.map .int)) := fun b hb => by
      have hz : b ∈ xs.zip ls := hperm.mem_iff.mp hb
      have key : ∀ {xs : List V} {ls : List (List Int)}, Paired (fun v l => ∃ t, v = V.ref t ∧ SqT X.K G' t (l.map V.int)) xs ls → b ∈ xs.zip ls → ∃ t, b.1 = V.ref t ∧ SqT X.K G' t (b.2.map V.int) := by
        intro xs ls h
        induction h with
        | nil => intro h; cases h
        | cons a _ ih =>
          intro h
          rcases List.mem_cons.mp h with z | z
          · rw [z]; exact a
          · exact ih z
      obtain ⟨t, e1, e2⟩ := key pp hz
      rw [e1]
      exact .tup (SqT.ext g2.g e2) (DpAll.ints _)
    clear hperm hsnd hz
    induction bs with
    | nil => exact .nil
    | cons b r ih => exact .cons (each b List.mem_cons_self) (ih fun b hb => each b (List.mem_cons_of_mem _ hb)))⟩
end
/-- a def of the text, where it stands -/
def DfL (K : PySem.W.Frag) (mg : Str → Option Value) (x : Str) (st : Stmt) (ps : List Str) : Prop := ∃ fd, FunD K x x (defArgs st) (defBody st) (defScope st) [] [] (He.fAd K (x, none)) fd ∧ mg x = some (.ref (He.fAd K (x, none))) ∧ Binds K fd ps []
/-- the tables of different defs are different -/
def LamU (K : PySem.W.Frag) : Prop := ∀ t ∈ lamTabs K, ∀ u ∈ lamTabs K, t.1 = u.1 → t.2 = u.2
theorem DfL.df {K : PySem.W.Frag} {mg : Str → Option Value} {x : Str} {st : Stmt} {ps : List Str} (d : DfL K mg x st ps) : Df K mg x st ps := let ⟨fd, a, b, c⟩ := d; ⟨_, fd, a, b, c⟩
/-- THE RULE for a def that makes lambdas -/
theorem has_ofL {P : Program} {w : World} {K : PySem.W.Frag} {mg : Str → Option Value} {base : Heap} {n : Nat} {x : Str} {st : Stmt} {N ps : List Str} {pre : FS} (d : DfL K mg x st ps) (TB : TabB base mg (He.cT K (x, none)).1 (He.cT K (x, none)).2) (hU : LamU K) (hin : (x, x ++ ".<locals>.<lambda>") ∈ lamDefs)
    (S : FnScope N ps (defScope st)) (len : ∀ rs k, pre rs k → rs.length = ps.length)
    (body : ∀ (f : Addr) (cdv : Value) (A : Around) (outer : List Env) (s : Shared) (H : Hp) (E : XK), Room n (A.deeper (envOfC x (defScope st) s.heap.objs.size f cdv)) → LamHere (cxOf CX0 P w K mg base N x (defScope st) f cdv A outer s H E).nox (x ++ ".<locals>.<lambda>") → ∀ (B : Bg) (rs : List Sl) (k : Sl → Prop), pre rs k →
      RunSs (cxOf CX0 P w K mg base N x (defScope st) f cdv A outer s H E).nox B (defBody st) (startS N rs) { nx := fun _ => k (.d .none), rt := k })
    (hq : (x ++ ".<locals>.") ++ "<lambda>" = x ++ ".<locals>.<lambda>" := by rfl) : Has P w K mg base (n + 1) x ps pre := by
  obtain ⟨fd, F, hm, hb⟩ := d
  have kp := F.kp
  obtain ⟨oc, od, dV, kV, doc, pm, an, cdv, ct, osl, rfl, lk, hcd, _, _⟩ := F.ex
  obtain ⟨c, rfl⟩ := He.codeIn_ref hcd
  have hc : He.codeOf K (x, none) = c := He.codeOf_eq lk rfl
  refine ⟨_, _, fn_of lk hcd S (fun vs H Q E h => ?_) (fun A outer s H vs Q E hr h => ?_), hm, kp, hb⟩
  · obtain ⟨B, G, rs, k, _, _, ao, pr, _⟩ := h
    rw [Paired.length ao]
    exact len rs k pr
  · obtain ⟨B, G, rs, k, tt, ok, ao, pr, cont⟩ := h
    have LH : LamHere (cxOf CX0 P w K mg base N x (defScope st) (He.fAd K (x, none)) (.ref c) A outer s H E).nox (x ++ ".<locals>.<lambda>") := by
      have hin2 : ((He.cT K (x, none)).2, x ++ ".<locals>.<lambda>") ∈ lamTabs K := List.mem_map.mpr ⟨_, hin, rfl⟩
      refine ⟨c, (He.cT K (x, none)).2, ?_, rfl, hq, hin2, fun t ht e => hU t ht _ hin2 e⟩
      have e1 : (He.cT K (x, none)).1 = c := hc
      rw [← e1]
      exact TB
    refine ⟨_, pss_self.nox, ?_⟩
    refine (body _ (.ref c) A outer s H E hr LH B rs k pr).run G H (L2.start N vs) G H _ ⟨Grow.refl ok, envOk_start tt ao, fun i t p e o ev => ?_⟩ ⟨fun Γ σ G' H' st q => cont .non G' H' _ st.gr (Res.dat .non) q, fun v G' H' r g re q => cont v G' H' r g re q, fun _ _ _ _ _ q => q.elim, fun _ _ _ _ _ q => q.elim, fun _ _ _ => trivial⟩
    exfalso
    exact start_own tt ao e o
end Ab
/-! dicts whose keys are tuples of ints and bools -/
namespace Ab
open PySem PySem.Spec L2
section
variable {X : Cx} {pins : List (Addr × Obj)} {σ : L2.St} {G H : Hp} {s : Shared}
theorem key_is {P : Program} {w : World} {a : Addr} {d : PyData} {ns : List Int} (I : Inv X pins σ H s) (e : Ext G H) (hd : Dp X.K G (.ref a) d) (hk : KeyD d ns) : (nestedKind P w).is s.heap (nk ns) a := by
  obtain ⟨ds, rfl, hn⟩ := hk
  obtain ⟨b, xs, eb, hs, ha⟩ := Dp.tup_inv hd
  cases eb
  obtain ⟨its, rv, ⟨o, ho, hc, n, hdt⟩, hzz⟩ := I.tuple (SqT.ext e hs).up
  clear hzz
  refine ⟨.tup ho hc hdt ?_, nk_depth ns⟩
  rw [List.toList_toArray]
  clear ho hdt hs hd
  induction hn generalizing xs its with
  | nil =>
    cases ha
    cases rv
    exact .nil
  | @cons d i ds ns h1 _ ih =>
    cases ha with
    | cons a1 a2 =>
      cases rv with
      | cons r1 r2 =>
        refine .cons ?_ (ih _ a2 _ r2)
        cases a1 with
        | int j =>
          obtain ⟨t, rfl⟩ := r1
          cases h1
          exact .int _ _
        | bl b =>
          cases r1
          cases h1
          exact .bool rfl
        | _ => cases h1
/-- behind a change of that one object -/
theorem kd_of {P : Program} {w : World} {h' : Heap} {p : Addr} {xs : List KX} {ys : List KY} (hm : h'.DictOfH (nestedKind P w) p ys) (hr : KdR xs ys) (hz : xs.length ≤ sizeLine) (hp : (p == sysModules) = false) : KdAt h' p xs := by
  obtain ⟨o, es, ep, ho, hc, hd, he, _, hn⟩ := hm
  refine ⟨o, es, ep, ys, ho, hc, hd, hr, fun P' w' => ?_, hn, hz, hp⟩
  rw [he]
  have : ∀ {xs : List KX} {ys : List KY}, KdR xs ys → ys.map (entryOfKey (nestedKind P w)) = ys.map (entryOfKey (nestedKind P' w')) := by
    intro xs ys hr
    induction hr with
    | nil => rfl
    | @cons x y xs ys r _ ih =>
      rw [List.map_cons, List.map_cons, ih]
      congr 1
      unfold entryOfKey
      have : (nestedKind P w).hash y.1 = (nestedKind P' w').hash y.1 := by
        show y.1.hash w = y.1.hash w'
        rw [r.1]
        exact nk_hash w w' _
      rw [this]
  exact this hr
/-! lookups, by the keys' numbers -/
def kFind (xs : List KX) (ns : List Int) : Option V := (xs.find? fun x => decide (x.1 = ns)).map (·.2.2)
def kPut (xs : List KX) (ns : List Int) (a : Addr) (v : V) : List KX := if (xs.any fun x => decide (x.1 = ns)) = true then xs.map (fun x => if x.1 = ns then (x.1, x.2.1, v) else x) else xs ++ [(ns, a, v)]
def kDel (xs : List KX) (ns : List Int) : List KX := xs.filter fun x => decide (x.1 ≠ ns)
theorem atKey_rel {xs : List KX} {ys : List KY} (hr : KdR xs ys) (ns : List Int) : (∃ x y, kFind xs ns = some x ∧ (atKey ys (nk ns)).map (·.2) = some y ∧ RelV x y) ∨ (kFind xs ns = none ∧ atKey ys (nk ns) = none) := by
  induction hr with
  | nil => exact .inr ⟨rfl, rfl⟩
  | @cons x y xs ys r _ ih =>
    unfold kFind atKey at ih ⊢
    rw [List.find?_cons, List.find?_cons]
    by_cases h : x.1 = ns
    · have h2 : y.1 = nk ns := by rw [r.1, h]
      rw [decide_eq_true h, decide_eq_true h2]
      exact .inl ⟨_, _, rfl, rfl, r.2.2⟩
    · have h2 : ¬ y.1 = nk ns := fun e => h (nk_inj (r.1.symm.trans e))
      rw [decide_eq_false h, decide_eq_false h2]
      exact ih
theorem any_rel {xs : List KX} {ys : List KY} (hr : KdR xs ys) (ns : List Int) : (atKey ys (nk ns)).isSome = xs.any fun x => decide (x.1 = ns) := by
  induction hr with
  | nil => rfl
  | @cons x y xs ys r _ ih =>
    unfold atKey at ih ⊢
    rw [List.find?_cons, List.any_cons]
    by_cases h : x.1 = ns
    · have h2 : y.1 = nk ns := by rw [r.1, h]
      rw [decide_eq_true h, decide_eq_true h2]
      rfl
    · have h2 : ¬ y.1 = nk ns := fun e => h (nk_inj (r.1.symm.trans e))
      rw [decide_eq_false h, decide_eq_false h2, Bool.false_or]
      exact ih
theorem put_rel {xs : List KX} {ys : List KY} (hr : KdR xs ys) (ns : List Int) {a : Addr} {v : V} {u : Value} (rv : RelV v u) : KdR (kPut xs ns a v) (storedH ys (nk ns) a u) := by
  unfold kPut storedH
  rw [any_rel hr ns]
  by_cases h : (xs.any fun x => decide (x.1 = ns)) = true
  · rw [if_pos h, if_pos h]
    clear h
    induction hr with
    | nil => exact .nil
    | @cons x y xs ys r _ ih =>
      refine .cons ?_ ih
      unfold putAt
      dsimp only
      by_cases h : x.1 = ns
      · rw [if_pos h, if_pos (by rw [r.1, h])]
        exact ⟨r.1, r.2.1, rv⟩
      · rw [if_neg h, if_neg fun e => h (nk_inj (r.1.symm.trans e))]
        exact r
  · rw [if_neg h, if_neg h]
    clear h
    induction hr with
    | nil => exact .cons ⟨rfl, rfl, rv⟩ .nil
    | cons r _ ih => exact .cons r ih
theorem del_rel {xs : List KX} {ys : List KY} (hr : KdR xs ys) (ns : List Int) : KdR (kDel xs ns) (withoutH ys (nk ns)) := by
  induction hr with
  | nil => exact .nil
  | @cons x y xs ys r _ ih =>
    unfold kDel withoutH at ih ⊢
    rw [List.filter_cons, List.filter_cons]
    by_cases h : x.1 = ns
    · have h2 : y.1 = nk ns := by rw [r.1, h]
      rw [if_neg (by simp [h]), if_neg (by simp [h2])]
      exact ih
    · have h2 : ¬ y.1 = nk ns := fun e => h (nk_inj (r.1.symm.trans e))
      rw [if_pos (by simp [h]), if_pos (by simp [h2])]
      exact .cons r ih
theorem kPut_len (xs : List KX) (ns : List Int) (a : Addr) (v : V) : (kPut xs ns a v).length ≤ xs.length + 1 := by
  unfold kPut
  split
  · rw [List.length_map]; omega
  · rw [List.length_append, List.length_singleton]; exact Nat.le_refl _
theorem kDel_len (xs : List KX) (ns : List Int) : (kDel xs ns).length ≤ xs.length := List.length_filter_le _ _
end
section
variable {X : Cx}
theorem room9 {k0 : Nat} {w : World} {P : Program} (hr : Room k0 X.A) : (nestedKind P w).room X.A.in1 := by
  show X.A.units + 1 + 8 < cLine
  have := hr.units
  omega
/-- what the key at a tells, by the ghost heap -/
def KeyAt (K : PySem.W.Frag) (G : Hp) (a : Addr) (ns : List Int) : Prop := ∃ d, Dp K G (.ref a) d ∧ KeyD d ns
theorem KeyAt.is {pins : List (Addr × Obj)} {σ : L2.St} {G H : Hp} {s : Shared} {P : Program} {w : World} {a : Addr} {ns : List Int} (k : KeyAt X.K G a ns) (I : Inv X pins σ H s) (e : Ext G H) : (nestedKind P w).is s.heap (nk ns) a := let ⟨_, h1, h2⟩ := k; key_is I e h1 h2
/-- an owned dict with such keys -/
def KdIn (K : PySem.W.Frag) (G H : Hp) (p : Addr) (xs : List KX) : Prop := H p = some (KdO p xs) ∧ Ext G H ∧ ∀ x ∈ xs, KeyAt K G x.2.1 x.1
theorem KdIn.get {pins : List (Addr × Obj)} {σ : L2.St} {G H : Hp} {s : Shared} {P : Program} {w : World} {p : Addr} {xs : List KX} (k : KdIn X.K G H p xs) (I : Inv X pins σ H s) : ∃ ys : List KY, s.heap.DictOfH (nestedKind P w) p ys ∧ KdR xs ys ∧ xs.length ≤ sizeLine ∧ (p == sysModules) = false := by
  obtain ⟨hp, e, hk⟩ := k
  obtain ⟨⟨o, es, ep, ys, ho, hc, hd, hr, he, hn, hz, hp2⟩, _, _⟩ := I.hok p _ hp
  refine ⟨ys, ⟨o, es, ep, ho, hc, hd, he P w, fun y hy => ?_, hn⟩, hr, hz, hp2⟩
  have key : ∀ {xs : List KX} {ys : List KY}, KdR xs ys → (∀ x ∈ xs, KeyAt X.K G x.2.1 x.1) → y ∈ ys → (nestedKind P w).is s.heap y.1 y.2.1 := by
    intro xs ys hr
    induction hr with
    | nil => intro _ h; cases h
    | @cons x z xs ys r _ ih =>
      intro hk hy
      rcases List.mem_cons.mp hy with e1 | e1
      · rw [e1, r.1, r.2.1]
        exact (hk x List.mem_cons_self).is I e
      · exact ih (fun x hx => hk x (List.mem_cons_of_mem _ hx)) e1
  exact key hr hk hy
/-- d.get(k, x) -/
def rKGet (K : PySem.W.Frag) : V → List V → Hp → VK → Prop := fun x us H Q => ∃ (p a : Addr) (xs : List KX) (ns : List Int) (v : V) (G : Hp), x = .ref p ∧ us = [.ref a, v] ∧ KdIn K G H p xs ∧ KeyAt K G a ns ∧ Q ((kFind xs ns).getD v) H
theorem mt_kget {k0 : Nat} (hr : Room k0 X.A) : MtR X "dict.get" (rKGet X.K) := by
  intro pins s σ H x us v vs Q I rx rus h
  obtain ⟨p, a, xs, ns, d, G, rfl, rfl, hk, ha, q⟩ := h
  cases rx
  obtain ⟨u1, u2, rfl, r1, r2⟩ := vals2 rus
  cases r1
  obtain ⟨ys, hm, hkr, hz, hp⟩ := hk.get (P := X.prog) (w := X.w) I
  refine getOr_keyed (room9 hr) (ha.is I hk.2.1) hp ⟨ys, hm, rfl⟩ ?_
  rw [valueAt_pairsH]
  rcases atKey_rel hkr ns with ⟨x1, y1, e1, e2, r⟩ | ⟨e1, e2⟩
  · rw [e2]
    rw [e1] at q
    exact ⟨x1, H, I.tok _, r, q⟩
  · rw [e2]
    rw [e1] at q
    exact ⟨d, H, I.tok _, r2, q⟩
/-- d[k] = v -/
def rKSet (K : PySem.W.Frag) : TSet := fun o i v H Q => ∃ (p a : Addr) (xs : List KX) (ns : List Int) (G : Hp), o = .ref p ∧ i = .ref a ∧ KdIn K G H p xs ∧ KeyAt K G a ns ∧ xs.length < 1000000 ∧ Q (upd H p (KdO p (kPut xs ns a v)))
theorem set_kd {k0 : Nat} (hr : Room k0 X.A) : PSet X (rKSet X.K) := by
  intro pins s σ H o i v ov iv u Q I ro ri rv h
  obtain ⟨p, a, xs, ns, G, rfl, rfl, hk, ha, hz1, q⟩ := h
  cases ro
  cases ri
  obtain ⟨ys, hm, hkr, hz, hp⟩ := hk.get (P := X.prog) (w := X.w) I
  have hlen : ys.length = xs.length := (Paired.length hkr).symm
  have hline : (1000000 : Nat) ≤ sizeLine := by decide
  refine wpAny_setItem_heap (hsz := by omega) (room9 hr) (ha.is I hk.2.1) hm fun h' hm' hs => ?_
  have hz2 : (kPut xs ns a v).length ≤ sizeLine := by have := kPut_len xs ns a v; omega
  have ka := kd_of hm' (put_rel hkr ns rv) hz2 hp
  have ⟨o2, _, _, _, ho2, _⟩ := ka
  exact ⟨_, I.write (x := p) (e := p) (o := KdO p (kPut xs ns a v)) (by rw [hk.1]; trivial) (.inl rfl) (fun b w' hb e => (hs.2 b hb).trans e) ⟨o2, ho2⟩ (kd_ok ka), q⟩
/-- d.pop(k), the key there -/
def rKPop (K : PySem.W.Frag) : V → List V → Hp → VK → Prop := fun x us H Q => ∃ (p a : Addr) (xs : List KX) (ns : List Int) (v : V) (G : Hp), x = .ref p ∧ us = [.ref a] ∧ KdIn K G H p xs ∧ KeyAt K G a ns ∧ kFind xs ns = some v ∧ Q v (upd H p (KdO p (kDel xs ns)))
theorem mt_kpop {k0 : Nat} (hr : Room k0 X.A) : MtR X "dict.pop" (rKPop X.K) := by
  intro pins s σ H x us v vs Q I rx rus h
  obtain ⟨p, a, xs, ns, d, G, rfl, rfl, hk, ha, hf, q⟩ := h
  cases rx
  obtain ⟨u1, rfl, r1⟩ := vals1 rus
  cases r1
  obtain ⟨ys, hm, hkr, hz, hp⟩ := hk.get (P := X.prog) (w := X.w) I
  rcases atKey_rel hkr ns with ⟨x1, y1, e1, e2, r⟩ | ⟨e1, e2⟩
  · rw [hf] at e1
    cases e1
    obtain ⟨z, hz2, rfl⟩ := Option.map_eq_some_iff.mp e2
    refine call_pop_heap (hsz := by rw [(Paired.length hkr).symm]; exact hz) (.inl rfl) (F.args_dict_pop_2 _ _) (room9 hr) (ha.is I hk.2.1) hp hm hz2 fun h' hm' hs => ?_
    have ka := kd_of hm' (del_rel hkr ns) (Nat.le_trans (kDel_len xs ns) hz) hp
    have ⟨o2, _, _, _, ho2, _⟩ := ka
    exact ⟨_, _, I.write (x := p) (e := p) (o := KdO p (kDel xs ns)) (by rw [hk.1]; trivial) (.inl rfl) (fun b w' hb e => (hs.2 b hb).trans e) ⟨o2, ho2⟩ (kd_ok ka), r, q⟩
  · rw [hf] at e1; cases e1
/-- k not in d -/
def rKNotIn (K : PySem.W.Frag) : R2 := fun x y H Q => ∃ (p a : Addr) (xs : List KX) (ns : List Int) (G : Hp), x = .ref a ∧ y = .ref p ∧ KdIn K G H p xs ∧ KeyAt K G a ns ∧ Q (.bl (!xs.any fun x => decide (x.1 = ns))) H
theorem op_kNotIn {k0 : Nat} (hr : Room k0 X.A) : OpR X (compareOp .NotIn) (rKNotIn X.K) := by
  intro pins s σ H x y v u Q I rx ry h
  obtain ⟨p, a, xs, ns, G, rfl, rfl, hk, ha, q⟩ := h
  cases rx
  cases ry
  obtain ⟨ys, hm, hkr, hz, hp⟩ := hk.get (P := X.prog) (w := X.w) I
  refine notIn_keyed (room9 hr) (ha.is I hk.2.1) hp ⟨ys, hm, rfl⟩ ?_
  rw [valueAt_pairsH, Option.isSome_map, any_rel hkr ns]
  exact ⟨.bl _, H, I.tok _, rfl, q⟩

theorem not_sys {pins : List (Addr × Obj)} {σ : L2.St} {H : Hp} {s : Shared} (I : Inv X pins σ H s) : (s.heap.objs.size == sysModules) = false := (dk_empty (P := X.prog) (w := X.w) (H := H) s.heap I.big).2.1
theorem kd_new {h : Heap} (hp : (h.objs.size == sysModules) = false) : KdAt (h.push { cls := .type "dict", data := .dict #[] }) h.objs.size [] :=
  ⟨_, #[], 0, [], Heap.get?_push_size _ rfl, ⟨rfl, rfl, rfl⟩, rfl, .nil, fun _ _ => rfl, List.nodup_nil, Nat.zero_le _, hp⟩
/-- a display of pairs, where the keys stand told -/
theorem disp_pairs {prog : Program} {w : World} {A : Around} {E : Value → Shared → Prop} {s : Shared} {env : Env} {keys : List (Option Expr)} {values : List Expr} {pos : Pos} {prs : List (Sem Value × Sem Value)} {Q : Value → Shared → Prop} (room : (nestedKind prog w).room A)
    (shape : (evalEachOpt keys env).zip ((evalEach values env).map fun v => do let x ← v; standAt pos; pure x) = prs.map fun p => (some p.1, p.2)) (ne : prs ≠ []) (few : prs.length ≤ 15)
    (run : wpAny (model prog w) A (evalPairs prs) (fun vs s1 => ∃ ps, CarriesH (nestedKind prog w) s1.heap vs ps ∧ s1.heap.DictOfH (nestedKind prog w) s.heap.objs.size [] ∧
      ∀ h' tk, h'.DictOfH (nestedKind prog w) s.heap.objs.size (storedAllH [] ps) → Heap.SameBut s.heap.objs.size s1.heap h' → Q (.ref s.heap.objs.size) { s1 with heap := h', toks := tk }) E { s with heap := s.heap.push { cls := .type "dict", data := .dict #[] } }) :
    wpAny (model prog w) A (eval (.Dict keys values pos) env) Q E s := by
  rw [arm_eval_Dict, shape, dictDisplay_pairs prs ne (by omega)]
  refine wpAny_bind (wpAny_standAt (wpAny_bind (wpAny_subDictH (knd := nestedKind prog w) (Q := fun d s' => wpAny (model prog w) A (pure (Value.ref d)) Q E s') room few (wpAny_mono run (fun vs s1 h1 => ?_) fun _ _ e => e))))
  obtain ⟨ps, c, m, q⟩ := h1
  exact ⟨ps, c, m, fun h' tk a b => wpAny_pure (q h' tk a b)⟩
/-- {k: v} -/
def tKDisp (K : PySem.W.Frag) (tk tv : TE) : TE := fun σ H Q => ∀ p, H p = none → tk σ (upd H p (KdO p [])) fun x H1 => tv σ H1 fun y H2 => H2 p = some (KdO p []) ∧ ∃ (a : Addr) (ns : List Int) (G : Hp), x = .ref a ∧ Ext G H2 ∧ KeyAt K G a ns ∧ Q (.ref p) (upd H2 p (KdO p [(ns, a, y)]))
theorem pe_kdisp {k0 : Nat} {ke ve : Expr} {tk tv : TE} {pos : Pos} (hr : Room k0 X.A) (hk : PE X ke tk) (hv : PE X ve tv) : PE X (.Dict [some ke] [ve] pos) (tKDisp X.K tk tv) := by
  refine ⟨fun pins s σ H Q I q => ?_⟩
  have hn := I.hok.fresh (Nat.le_refl s.heap.objs.size)
  have hp := not_sys I
  have I1 := I.laid (a := s.heap.objs.size) (o := KdO s.heap.objs.size []) (h' := s.heap.push { cls := .type "dict", data := .dict #[] }) (t' := s.toks) (fun _ _ q => Heap.get?_push_of_some _ q) (Nat.le_refl _) (kd_ok (kd_new hp))
  refine disp_pairs (prs := pairTrees [some ke] [ve] X.env pos) (by show X.A.units + 8 < cLine; have := hr.units; omega) rfl (by simp [pairTrees]) (by simp [pairTrees])
    (thn ((pps_cons hk hv pps_nil).run pins _ σ _ (fun ps H2 => match ps with
      | [(x, y)] => H2 s.heap.objs.size = some (KdO s.heap.objs.size []) ∧ ∃ (a : Addr) (ns : List Int) (G : Hp), x = .ref a ∧ Ext G H2 ∧ KeyAt X.K G a ns ∧ Q (.ref s.heap.objs.size) (upd H2 s.heap.objs.size (KdO s.heap.objs.size [(ns, a, y)]))
      | _ => False) I1 (q _ hn)) fun ws s2 ⟨ps, H2, I2, rel, q3⟩ => ?_)
  match ps, rel, q3 with
  | [(x, y)], rel, ⟨hd, a, ns, G, ex, e, ka, q2⟩ =>
    subst ex
    cases rel with
    | @cons p1 p2 l1 l2 r1 r2 =>
      cases r2
      obtain ⟨u1, u2⟩ := p2
      obtain ⟨r1, ry⟩ := r1
      cases r1
      obtain ⟨ys, hm, hkr, hz, _⟩ := KdIn.get (P := X.prog) (w := X.w) ⟨hd, e, fun x hx => by cases hx⟩ I2
      cases hkr
      refine ⟨[(nk ns, a, u2)], ⟨rfl, rfl, ka.is I2 e, trivial⟩, hm, fun h' tk hm' hs => ?_⟩
      have ka2 := kd_of hm' (xs := [(ns, a, y)]) (.cons ⟨rfl, rfl, ry⟩ .nil) (by show 1 ≤ sizeLine; decide) hp
      have ⟨o2, _, _, _, ho2, _⟩ := ka2
      exact ⟨.ref s.heap.objs.size, _, I2.write (x := s.heap.objs.size) (e := s.heap.objs.size) (o := KdO s.heap.objs.size [(ns, a, y)]) (by rw [hd]; trivial) (.inl rfl) (fun b w' hb e => (hs.2 b hb).trans e) ⟨o2, ho2⟩ (kd_ok ka2), rfl, q2⟩
/-- d != {} -/
def rKNe0 (K : PySem.W.Frag) : R2 := fun x y H Q => ∃ (p b : Addr) (xs : List KX) (G : Hp), x = .ref p ∧ y = .ref b ∧ KdIn K G H p xs ∧ H b = some (.dK []) ∧ Q (.bl (!xs.isEmpty)) H
theorem op_kNe0 {k0 : Nat} (hr : Room k0 X.A) : OpR X (compareOp .NotEq) (rKNe0 X.K) := by
  intro pins s σ H x y v u Q I rx ry h
  obtain ⟨p, b, xs, G, rfl, rfl, hk, hb, q⟩ := h
  cases rx
  cases ry
  obtain ⟨ys, hm, hkr, hz, hp⟩ := hk.get (P := X.prog) (w := X.w) I
  obtain ⟨hzb, hpb, vs, rel, db⟩ := dk_of I.hok hb
  cases rel
  obtain ⟨oa, es, ep, hoa, hca, hda, he, _, _⟩ := id hm
  obtain ⟨ob, es2, ep2, hob, hcb, hdb, hkb, hpb2, _⟩ := id db
  have hla : es.size = xs.length := by rw [← Array.length_toList, he, List.length_map, Paired.length hkr]
  have hlb : es2.size = 0 := by rw [← Array.length_toList, hpb2.length]; rfl
  refine wpAny_richCompare_same_room (op := .NotEq) hm.typeIs db.typeIs F.slot_dict_ne (wpAny_call_entry F.slot_dict_ne hm.typeIs F.entry_dict_ne ?_ (F.args_dict_ne_2 _ _)) hr.units0
  show wpAny _ _ (Builtin.Dict.dictSlotArgs "__ne__" ⟨[.ref p, .ref b], []⟩ >>= _) _ _ s
  refine wpAny_bind ?_
  unfold Builtin.Dict.dictSlotArgs
  refine wpAny_bind (wpAny_notOrdered_dict hm.typeIs (wpAny_pure ?_))
  refine wpAny_bind (wpAny_isInstance (T := "dict") db.typeIs F.sub_dict_dict ?_)
  simp only [Bool.not_true, Bool.false_eq_true, if_false]
  refine wpAny_bind (wpAny_pure (wpAny_bind (wpAny_pure ?_)))
  have fin : ∀ {A1 : Around} {nm : String} {R : Bool → Shared → Prop} {E : Value → Shared → Prop}, R xs.isEmpty s → wpAny (model X.prog X.w) A1 (Builtin.Dict.samePairs nm p b) R E s := by
    intro A1 nm R E hR
    unfold Builtin.Dict.samePairs Builtin.Dict.showsAll
    rw [if_neg (by rw [hp]; decide), if_neg (by rw [hpb]; decide)]
    refine wpAny_bind (wpAny_pure (wpAny_bind (wpAny_pure (wpAny_bind (wpAny_dictEntries hoa hda ?_)))))
    dsimp only
    refine wpAny_bind (wpAny_dictEntries hob hdb ?_)
    cases hx : xs with
    | cons z r =>
      rw [if_pos (by rw [hla, hlb, hx]; rfl)]
      rw [hx] at hR
      exact wpAny_bind (wpAny_rule (wpAny_pure hR))
    | nil =>
      have h0 : es.size = 0 := by rw [hla, hx]; rfl
      rw [if_neg (by rw [h0, hlb]; decide)]
      refine wpAny_bind (wpAny_dictEpoch hoa hda (wpAny_bind ?_))
      rw [Std.Legacy.Range.forIn_eq_forIn_range']
      simp only [Std.Legacy.Range.size, h0, Nat.sub_zero, Nat.zero_add, Nat.div_one, Nat.sub_self, List.range'_zero, List.forIn_nil]
      rw [hx] at hR
      exact wpAny_pure (wpAny_pure hR)
  refine wpAny_bind (fin ?_)
  refine wpAny_pure ⟨_, rfl, (fun x => nomatch x), ?_⟩
  have e1 : (xs.isEmpty == false) = !xs.isEmpty := by cases xs.isEmpty <;> rfl
  refine ⟨.bl (!xs.isEmpty), H, I, ?_, q⟩
  rw [← e1]
  rfl
end
/-! ### max(d, key=lambda one: one[1]): some key of d -/
section
variable {X : Cx}
theorem shared_eq {s t : Shared} (g : t.gens = s.gens) (d : t.drawn = s.drawn) (o : t.os = s.os) : t = { s with heap := t.heap, toks := t.toks } := by
  cases s; cases t
  cases g; cases d; cases o
  rfl
theorem pure_int {k : Int} {h : Heap} {v : Value} (r : Reads h v (.int k) []) : ∃ t, v = .int k t := by cases r; exact ⟨_, rfl⟩
def midAt (xs : List KX) (i : Nat) : Int := match xs[i]? with
  | some (ns, _) => ns.getD 1 0
  | none => 0
def rKMax (K : PySem.W.Frag) (q : Str) (params : Arguments) (body : Expr) (scope : Scope) : List V → List V → Hp → VK → Prop := fun vs zs H Q => ∃ (p f : Addr) (xs : List KX) (G : Hp), vs = [.ref p] ∧ zs = [.ref f] ∧ LamAt H f q params body scope ∧ KdIn K G H p xs ∧ 0 < xs.length ∧
  (∀ x ∈ xs, ∃ a m c, x.1 = [a, m, c] ∧ ∃ u v, SqT K H x.2.1 [u, .int m, v]) ∧ ∀ x ∈ xs, Q (.ref x.2.1) H
theorem cr_kmax {k0 : Nat} {q x : Str} {params : Arguments} {scope : Scope} {p1 p2 p3 : Pos} {jj} (S : Lam1 x params (.Subscript (.Name x p1) (.Constant (.int 1) jj p2) p3) scope) (hc : X.calm = true) (hr : Room k0 X.A) :
    CallRK X (.builtin "max") [Str.ofString "key"] (rKMax X.K q params (.Subscript (.Name x p1) (.Constant (.int 1) jj p2) p3) scope) := by
  intro pins s σ H vs zs us ws Q I r rz h
  obtain ⟨p, f, xs, G, rfl, rfl, L, hk, hne, htup, cont⟩ := h
  rw [Vals.ref1 r]
  obtain ⟨w1, rfl, e1⟩ := vals1 rz
  obtain rfl : w1 = Value.ref f := e1
  obtain ⟨ys, hm, hkr, hz, hp⟩ := hk.get (P := X.prog) (w := X.w) I
  obtain ⟨od, es, ep, ho, hco, hd, he, his, _⟩ := id hm
  have hsz : es.size = xs.length := by rw [← Array.length_toList, he, List.length_map, Paired.length hkr]
  have hh : X.A.handled = none := I.ok.hd hc
  have raw : s.heap.DictRaw p es ep := ⟨od, ho, hco, hd⟩
  have hplt : p < s.heap.objs.size := Heap.lt_size ho
  have key_of : ∀ i (hi : i < es.size), ∃ z, xs[i]? = some z ∧ es[i].key = .ref z.2.1 := fun i hi => by
    have h1 : es.toList[i]? = some es[i] := by rw [Array.getElem?_toList]; exact Array.getElem?_eq_getElem hi
    rw [he, List.getElem?_map] at h1
    cases hy : ys[i]? with
    | none => rw [hy] at h1; cases h1
    | some y =>
      rw [hy] at h1
      have h2 : entryOfKey (nestedKind X.prog X.w) y = es[i] := Option.some.inj h1
      have key : ∀ {xs : List KX} {ys : List KY} (i : Nat), KdR xs ys → ys[i]? = some y → ∃ z, xs[i]? = some z ∧ y.2.1 = z.2.1 := by
        intro xs ys i hr
        induction hr generalizing i with
        | nil => intro h; simp at h
        | @cons a b as bs r _ ih =>
          intro h
          cases i with
          | zero => simp only [List.getElem?_cons_zero, Option.some.injEq] at h; subst h; exact ⟨a, rfl, r.2.1⟩
          | succ i => exact ih i (by simpa using h)
      obtain ⟨z, hz1, hz2⟩ := key i hkr hy
      refine ⟨z, hz1, ?_⟩
      rw [← h2, ← hz2]
      rfl
  refine call_max_walkK (wpAny_pyIter_dict_raw hp raw ?_)
  have nI : p ≠ s.heap.objs.size := Nat.ne_of_lt hplt
  have W := (Walks.rawKeys (prog := X.prog) (w := X.w) (A := X.A.in1) hh s.heap.objs.size p nI es ep).toS
  obtain ⟨hI, eI⟩ : ∃ hI, s.heap.push { cls := .type "dict_keyiterator", data := .fields #[.ref p, .int 0 0, .int es.size 0, .int ep 0] } = hI := ⟨_, rfl⟩
  have sI : hI.objs.size = s.heap.objs.size + 1 := by rw [← eI]; exact PyProof.Rows.size_push' _ _
  have kI : ∀ b o, s.heap.get? b = some o → hI.get? b = some o := fun b o e => by rw [← eI]; exact Heap.get?_push_of_some _ e
  have gI : hI.get? s.heap.objs.size = some { cls := .type "dict_keyiterator", data := .fields #[.ref p, .int 0 0, .int es.size 0, .int ep 0] } := by rw [← eI]; exact Heap.get?_push_size _ rfl
  rw [eI]
  refine ⟨s.heap.objs.size, _, _, _, es.size, _, _, fun t => (∀ b o, b < s.heap.objs.size → s.heap.get? b = some o → t.heap.get? b = some o) ∧ t.gens = s.gens ∧ t.drawn = s.drawn ∧ t.os = s.os, fun i k _ => ∃ t, k = .int (midAt xs i) t, fun i j => decide (midAt xs i > midAt xs j), rfl, W, ⟨⟨_, gI, rfl, rfl⟩, raw.at fun o e => kI _ _ e⟩, fun b hb => ?_, by rw [hsz]; exact hne, ⟨fun t t' hJ hm => ?_, fun _ _ _ _ h _ => h, fun i v t o Q1 E1 hi hP hJ hst hS hQ => ?_, fun i j ki kj t Q1 E1 _ h1 h2 hQ => ?_⟩, ⟨fun b o _ e => kI b o e, rfl, rfl, rfl⟩, fun v t hP hJ => ?_⟩
  · rcases List.mem_cons.mp hb with z | z
    · rw [z, sI]; exact Nat.lt_succ_self _
    · rw [List.mem_singleton.mp z, sI]; exact Nat.lt_succ_of_lt hplt
  · refine ⟨fun b o hb e => hm.heap b o (fun z => ?_) (hJ.1 b o hb e), hm.gens.trans hJ.2.1, hm.drawn.trans hJ.2.2.1, hm.os.trans hJ.2.2.2⟩
    rcases List.mem_cons.mp z with z | z
    · have z : b = hI.objs.size := z
      rw [z, sI] at hb; exact Nat.lt_irrefl _ (Nat.lt_of_succ_lt hb)
    · rw [List.mem_singleton.mp z] at hb; exact Nat.lt_irrefl _ hb
  · obtain ⟨hi2, rfl⟩ := hP
    obtain ⟨z, hz1, hz2⟩ := key_of i hi
    rw [hz2]
    obtain ⟨a, m, c, en, u, v, hs⟩ := htup z (List.mem_of_getElem? hz1)
    have emid : midAt xs i = m := by unfold midAt; rw [hz1]; obtain ⟨z1, z2⟩ := z; subst en; rfl
    have keep : ∀ b o, s.heap.get? b = some o → t.heap.get? b = some o := fun b o e => hJ.1 b o (Heap.lt_size e) e
    have et := shared_eq hJ.2.1 hJ.2.2.1 hJ.2.2.2
    obtain ⟨its, rv, pt, _⟩ := I.tuple hs.up
    have turn := lam_turn (x := x) (A1 := X.A.in1) (k := .int m) (h := t.heap) (tk := t.toks) (v := .ref z.2.1) I L S hr.depth keep fun f c' A2 L h1 tk1 k1 hns => by
      cases rv with
      | cons r1 r2 =>
        cases r2 with
        | cons r2 r3 =>
          cases r3 with
          | cons r3 r4 =>
            cases r4
            obtain ⟨tm, rfl⟩ := r2
            exact lam_ix1 S.kind S.loc hns (pt.keeps k1) rfl (by show 3 < 2 ^ 63; decide) S.dbg
    rw [← et] at turn
    refine wpAny_mono turn (fun kv t2 ⟨h2, tk2, e2, k2, rd⟩ => ?_) fun _ _ z => z.elim
    subst e2
    obtain ⟨tm, rfl⟩ := pure_int rd
    refine hQ _ _ ⟨fun b o hb e => k2 b o (hJ.1 b o hb e), hJ.2⟩ ⟨?_, ?_⟩ (k2 _ _ hS) ⟨tm, by rw [emid]⟩ fun _ _ h => h
    · obtain ⟨⟨oi, a1, a2, a3⟩, _⟩ := hst
      exact ⟨oi, k2 _ _ a1, a2, a3⟩
    · exact hst.2.at fun o e => k2 _ _ e
  · exact CmpOf.ints_gt (P := fun i v => ∃ t, v = Value.int (midAt xs i) t) (midAt xs) (fun _ _ h => h) i j ki kj t Q1 E1 h1 h2 hQ
  · obtain ⟨hi, rfl⟩ := hP
    obtain ⟨z, hz1, hz2⟩ := key_of _ hi
    rw [hz2]
    have keep : ∀ b o, s.heap.get? b = some o → t.heap.get? b = some o := fun b o e => hJ.1 b o (Heap.lt_size e) e
    rw [shared_eq hJ.2.1 hJ.2.2.1 hJ.2.2.2]
    exact ⟨.ref z.2.1, H, I.kept keep, rfl, cont z (List.mem_of_getElem? hz1)⟩
end
/-! ### the slot -/
abbrev KV3 := List Int × PyData × PyData
def kvGet (kvs : List KV3) (ns : List Int) : Option PyData := (kvs.find? fun kv => decide (kv.1 = ns)).map (·.2.2)
def kvPut (kvs : List KV3) (ns : List Int) (dk dv : PyData) : List KV3 := if (kvs.any fun kv => decide (kv.1 = ns)) = true then kvs.map (fun kv => if kv.1 = ns then (kv.1, kv.2.1, dv) else kv) else kvs ++ [(ns, dk, dv)]
def kvDel (kvs : List KV3) (ns : List Int) : List KV3 := kvs.filter fun kv => decide (kv.1 ≠ ns)
section
variable {K : PySem.W.Frag} {G H : Hp}
theorem KdK.any {xs : List KX} {kvs : List KV3} (h : KdK K G xs kvs) (ns : List Int) : (xs.any fun x => decide (x.1 = ns)) = kvs.any fun kv => decide (kv.1 = ns) := by
  unfold KdK at h
  induction h with
  | nil => rfl
  | cons q _ ih => rw [List.any_cons, List.any_cons, ih, q.1]
theorem KdK.find {xs : List KX} {kvs : List KV3} (h : KdK K G xs kvs) (ns : List Int) : (∃ v d, kFind xs ns = some v ∧ kvGet kvs ns = some d ∧ Dp K G v d) ∨ (kFind xs ns = none ∧ kvGet kvs ns = none) := by
  unfold KdK at h
  unfold kFind kvGet
  induction h with
  | nil => exact .inr ⟨rfl, rfl⟩
  | @cons x kv xs kvs q _ ih =>
    rw [List.find?_cons, List.find?_cons, ← q.1]
    by_cases h : x.1 = ns
    · rw [decide_eq_true h]
      exact .inl ⟨_, _, rfl, rfl, q.2.2.2⟩
    · rw [decide_eq_false h]
      exact ih
theorem KdK.put {xs : List KX} {kvs : List KV3} (h : KdK K G xs kvs) (ns : List Int) {a : Addr} {v : V} {dk dv : PyData} (hk : KeyD dk ns) (ha : Dp K G (.ref a) dk) (hv : Dp K G v dv) : KdK K G (kPut xs ns a v) (kvPut kvs ns dk dv) := by
  unfold kPut kvPut
  rw [h.any ns]
  unfold KdK at h ⊢
  by_cases c : (kvs.any fun kv => decide (kv.1 = ns)) = true
  · rw [if_pos c, if_pos c]
    clear c
    induction h with
    | nil => exact .nil
    | @cons x kv xs kvs q _ ih =>
      refine .cons ?_ ih
      dsimp only
      rw [← q.1]
      by_cases e : x.1 = ns
      · rw [if_pos e, if_pos e]
        exact ⟨rfl, by rw [q.1]; exact q.2.1, q.2.2.1, hv⟩
      · rw [if_neg e, if_neg e]
        exact q
  · rw [if_neg c, if_neg c]
    clear c
    induction h with
    | nil => exact .cons ⟨rfl, hk, ha, hv⟩ .nil
    | cons q _ ih => exact .cons q ih
theorem KdK.del {xs : List KX} {kvs : List KV3} (h : KdK K G xs kvs) (ns : List Int) : KdK K G (kDel xs ns) (kvDel kvs ns) := by
  unfold KdK at h ⊢
  unfold kDel kvDel
  induction h with
  | nil => exact .nil
  | @cons x kv xs kvs q _ ih =>
    rw [List.filter_cons, List.filter_cons, ← q.1]
    by_cases e : x.1 = ns
    · rw [if_neg (by simp [e]), if_neg (by simp [e])]
      exact ih
    · rw [if_pos (by simp [e]), if_pos (by simp [e])]
      exact .cons q ih
theorem KdK.keys {xs : List KX} {kvs : List KV3} (h : KdK K G xs kvs) : ∀ x ∈ xs, KeyAt K G x.2.1 x.1 := by
  unfold KdK at h
  induction h with
  | nil => intro x hx; cases hx
  | @cons x kv xs kvs q _ ih =>
    intro y hy
    rcases List.mem_cons.mp hy with e | e
    · rw [e]; exact ⟨_, q.2.2.1, by rw [q.1]; exact q.2.1⟩
    · exact ih y e
theorem KdK.len {xs : List KX} {kvs : List KV3} (h : KdK K G xs kvs) : xs.length = kvs.length := Paired.length h
end
section
variable {X : Cx} {B : Bg} {Γ : List Sl} {D : Dn} {e ke ve : Expr} {pos p1 p2 p3 : Pos} {k : Sl → Prop}
theorem kd_in {G H : Hp} {σ : L2.St} (ok : Ok B G H) (en : EnvOk X.K B G H σ Γ) {j : Nat} {kvs : List KV3} (hg : Γ[j]? = some (.kd kvs)) : ∃ p xs, σ[j]? = some (some (.ref p)) ∧ ¬ B p ∧ G p = none ∧ H p = some (KdO p xs) ∧ KdK X.K G xs kvs ∧ KdIn X.K G H p xs := by
  obtain ⟨v, e1, p, xs, ev, nb, z, hp, da⟩ := en.ok j _ hg (by simp)
  subst ev
  exact ⟨p, xs, e1, nb, z, hp, da, hp, ok.ex, da.keys⟩
/-- {k: v} -/
theorem ee_kd1 {k0 : Nat} (hr : Room k0 X.A) (h : EvE X B ke Γ (Sl.dat fun dk => ∃ ns, KeyD dk ns ∧ EvE X B ve Γ (Sl.dat fun dv => k (.kd [(ns, dk, dv)])))) : EvE X B (.Dict [some ke] [ve] pos) Γ k :=
  ⟨fun σ G H Q ok en cont => tE_of (pe_kdisp hr pe_self pe_self) fun p hp => by
    have g0 := Grow.newOwn ok hp (KdO p [])
    have nb := ok.notfree hp
    refine (EvD.of h).run σ G _ _ g0.ok (en.grow g0) fun x G1 H1 dk g1 dx ⟨ns, hk, h2⟩ => ?_
    refine (EvD.of h2).run σ G1 H1 _ g1.ok ((en.grow g0).grow g1) fun y G2 H2 dv g2 dy q => ?_
    have hd : H2 p = some (KdO p []) := g2.h _ _ nb (g1.h _ _ nb upd_same)
    have gp : G2 p = none := g2.n _ _ (g1.h _ _ nb upd_same) (g1.n _ _ upd_same (ok.ex.free hp))
    obtain ⟨ds, rfl, hn⟩ := hk
    obtain ⟨a, xs, rfl, hs, ha⟩ := Dp.tup_inv dx
    have dx2 : Dp X.K G2 (.ref a) (.tuple ds) := Dp.ext g2.g _ _ dx
    have g012 := g0.trans (g1.trans g2)
    refine ⟨hd, a, ns, G2, rfl, g2.ok.ex, ⟨_, dx2, ds, rfl, hn⟩, cont _ G2 _ (.kd [(ns, .tuple ds, dv)]) ⟨g012.g, fun b o nbb e => ?_, g012.n, g2.ok.mut nb gp _⟩ ⟨⟨p, _, rfl, nb, gp, upd_same, .cons ⟨rfl, ⟨ds, rfl, hn⟩, dx2, dy⟩ .nil⟩, fun _ z e => by cases e; exact hp⟩ q⟩
    rw [upd_ne (ne_of_none e hp)]
    exact g012.h b o nbb e⟩
/-- d != {} -/
theorem et_kdNe0 {k0 : Nat} {x : Str} {f : Bool → Prop} (j : Nat) {kvs : List KV3} (hr : Room k0 X.A) (hg : Γ[j]? = some (.kd kvs)) (q : f (!kvs.isEmpty)) (hN : X.N[j]? = some x := by rfl) (hv : Vis X.env.scope x := by first | exact Or.inl rfl | exact Or.inr (Or.inl rfl) | exact Or.inr (Or.inr rfl))
    (hd : (x == ("__debug__" : Str)) = false := by decide) (hcd : (x == ("__classdict__" : Str)) = false := by decide) : EvT X B (.Compare (.Name x p1) [.NotEq] [.Dict [] [] p2] pos) Γ f :=
  ⟨fun σ G H Q ok en cont => tT_of (pt_cmpR (op_kNe0 hr) (pe_var hN hv hd hcd) pe_dnewK (nomark _)) (by
    obtain ⟨p, xs, e1, nb, z, hp, da, ki⟩ := kd_in ok en hg
    refine ⟨_, e1, fun b hb => ?_⟩
    have g := Grow.newOwn ok hb (.dK [])
    refine ⟨p, b, xs, G, rfl, rfl, ⟨g.h _ _ nb hp, g.ok.ex, da.keys⟩, upd_same, _, rfl, cont _ G _ g ?_⟩
    have : xs.isEmpty = kvs.isEmpty := by
      have := da.len
      cases xs <;> cases kvs <;> first | rfl | (simp at this)
    rw [this]
    exact q)⟩
/-- a method call of such a dict -/
theorem pe_kmeth {o : Expr} {es : List Expr} {name : Str} {id : String} {r : V → List V → Hp → VK → Prop} {to : TE} {t : TA} {apos cpos : Pos} (slot : Slot "dict" name id) (hty : typeOf (.builtin id) = pure (.type "method_descriptor")) (hm : MtR X id r) (ho : PE X o to) (ha : PA X (e :: es) t)
    (hbase : attributeBase o name X.env (eval o X.env) = eval o X.env := by rfl)
    (hfew : ((backTo cpos (starEach (e :: es) X.env)).all (fun x => !x.1) && (backToKw cpos (keywordEach [] X.env)).all (fun x => x.1.isSome)
      && decide ((e :: es).length + ([] : List Keyword).length + (if ([] : List Keyword).isEmpty then 0 else 1) < 30)) = true := by rfl)
    (hline : (apos.endLine == cpos.line) = true := by rfl) (hs : starEach (e :: es) X.env = (false, eval e X.env) :: starEach es X.env := by rfl) (hplain : (backTo cpos (starEach es X.env)).any (·.1) = false := by rfl) :
    PE X (.Call (.Attribute o name apos) (e :: es) [] cpos) (fun σ H Q => to σ H fun x H1 => (∃ p xs G, x = V.ref p ∧ KdIn X.K G H1 p xs) ∧ t σ H1 fun vs H2 => r x vs H2 Q) := by
  refine ⟨fun pins s σ H Q I h => ?_⟩
  refine wpAny_Call_method_late hbase hfew hline rfl (thn (ho.run pins s σ H _ I h) fun v s1 ⟨x, H1, I1, r1, ty, q1⟩ => ?_)
  obtain ⟨p, xs, G, rfl, hk⟩ := ty
  cases r1
  obtain ⟨ys, hd, _, _, _⟩ := hk.get (P := X.prog) (w := X.w) I1
  refine ⟨"dict", id, F.plainAttrs_dict, slot, hty, hd.typeIs, fun b e => ?_, ?_⟩
  · cases e
    obtain ⟨ob, _, _, h1, h2, _⟩ := hd
    exact ⟨ob, h1, h2.2.1⟩
  have hA := ha.run cpos pins s1 σ H1 _ I1 q1
  rw [hs] at hA ⊢
  refine Calls.callWith_builtin (by show (false || (backTo cpos (starEach es X.env)).any (·.1)) = false; rw [hplain] <;> rfl) (Calls.evalArgs_plain ?_)
  exact thn hA fun us s2 ⟨vs, H2, I2, r2, q2⟩ => hm pins s2 σ H2 (.ref p) vs (.ref p) us Q I2 rfl r2 q2
/-- d.get(k, e) -/
theorem ee_kdGet {k0 : Nat} {x nm : Str} {apos : Pos} (j : Nat) {kvs : List KV3} (hr : Room k0 X.A) (hg : Γ[j]? = some (.kd kvs)) (h : EvE X B ke Γ (Sl.dat fun dk => ∃ ns, KeyD dk ns ∧ EvE X B ve Γ (Sl.dat fun dv => k (.d ((kvGet kvs ns).getD dv))))) (hnm : nm = "get" := by rfl)
    (hN : X.N[j]? = some x := by rfl) (hv : Vis X.env.scope x := by first | exact Or.inl rfl | exact Or.inr (Or.inl rfl) | exact Or.inr (Or.inr rfl)) (hd : (x == ("__debug__" : Str)) = false := by decide) (hcd : (x == ("__classdict__" : Str)) = false := by decide)
    (hbase : attributeBase (.Name x p1) nm X.env (eval (.Name x p1) X.env) = eval (.Name x p1) X.env := by rfl)
    (hfew : ((backTo pos (starEach [ke, ve] X.env)).all (fun x => !x.1) && (backToKw pos (keywordEach [] X.env)).all (fun x => x.1.isSome)
      && decide (([ke, ve] : List Expr).length + ([] : List Keyword).length + (if ([] : List Keyword).isEmpty then 0 else 1) < 30)) = true := by rfl)
    (hline : (apos.endLine == pos.line) = true := by rfl) (hs : starEach [ke, ve] X.env = (false, eval ke X.env) :: starEach [ve] X.env := by rfl) (hs2 : starEach [ve] X.env = (false, eval ve X.env) :: starEach [] X.env := by rfl) (hplain : (backTo pos (starEach [ve] X.env)).any (·.1) = false := by rfl) :
    EvE X B (.Call (.Attribute (.Name x p1) nm apos) [ke, ve] [] pos) Γ k := by
  subst hnm
  exact ⟨fun σ G H Q ok en cont => tE_of (pe_kmeth F.slot_dict_get F.type_dict_get (mt_kget hr) (pe_var hN hv hd hcd) (pa_cons pe_self (pa_cons pe_self pa_nil hs2) hs) hbase hfew hline hs hplain) (by
    obtain ⟨p, xs, e1, nb, z, hp, da, ki⟩ := kd_in ok en hg
    refine ⟨_, e1, ⟨p, xs, G, rfl, ki⟩, (EvD.of h).run σ G H _ ok en fun v G1 H1 dk g1 dx ⟨ns, hk, h2⟩ => (EvD.of h2).run σ G1 H1 _ g1.ok (en.grow g1) fun y G2 H2 dv g2 dy q => ?_⟩
    have g := g1.trans g2
    have da2 := KdK.ext g.g da
    have hk2 := hk
    obtain ⟨ds, rfl, hn⟩ := hk
    obtain ⟨a, us, rfl, _, _⟩ := Dp.tup_inv dx
    refine ⟨p, a, xs, ns, y, G2, rfl, rfl, ⟨g.h _ _ nb hp, g2.ok.ex, da2.keys⟩, ⟨_, Dp.ext g2.g _ _ dx, hk2⟩, ?_⟩
    rcases da2.find ns with ⟨v1, d1, f1, f2, f3⟩ | ⟨f1, f2⟩
    · rw [f1]
      rw [f2] at q
      exact cont _ G2 H2 _ g (Res.dat f3) q
    · rw [f1]
      rw [f2] at q
      exact cont _ G2 H2 _ g (Res.dat dy) q)⟩
/-- y = d.pop(k), the key there -/
theorem rs_kdPop {k0 : Nat} {x y nm : Str} {apos ypos : Pos} (i j : Nat) {kvs : List KV3} (hNd : X.N.Nodup) (hr : Room k0 X.A) (hg : Γ[j]? = some (.kd kvs)) (h : EvE X B ke Γ (Sl.dat fun dk => ∃ ns d, KeyD dk ns ∧ kvGet kvs ns = some d ∧ D.nx ((Γ.set j (.kd (kvDel kvs ns))).set i (.d d)))) (hnm : nm = "pop" := by rfl)
    (hN : X.N[j]? = some x := by rfl) (hv : Vis X.env.scope x := by first | exact Or.inl rfl | exact Or.inr (Or.inl rfl) | exact Or.inr (Or.inr rfl)) (hd : (x == ("__debug__" : Str)) = false := by decide) (hcd : (x == ("__classdict__" : Str)) = false := by decide)
    (hi : X.N[i]? = some y := by rfl) (hy : Loc X.env.scope y := by first | exact Or.inl rfl | exact Or.inr rfl) (hf : X.fn y = true ∨ X.env.scope.names.lookup y = some .local := by first | exact .inl rfl | exact .inr rfl)
    (hsw : swapsWith (.Call (.Attribute (.Name x p1) nm apos) [ke] [] p2) (some (.Name y ypos)) pos.line X.env = pure false := by rfl)
    (hbase : attributeBase (.Name x p1) nm X.env (eval (.Name x p1) X.env) = eval (.Name x p1) X.env := by rfl)
    (hfew : ((backTo p2 (starEach [ke] X.env)).all (fun x => !x.1) && (backToKw p2 (keywordEach [] X.env)).all (fun x => x.1.isSome)
      && decide (([ke] : List Expr).length + ([] : List Keyword).length + (if ([] : List Keyword).isEmpty then 0 else 1) < 30)) = true := by rfl)
    (hline : (apos.endLine == p2.line) = true := by rfl) (hs : starEach [ke] X.env = (false, eval ke X.env) :: starEach [] X.env := by rfl) (hplain : (backTo p2 (starEach [] X.env)).any (·.1) = false := by rfl) :
    RunS X B (.Assign [.Name y ypos] (.Call (.Attribute (.Name x p1) nm apos) [ke] [] p2) pos) Γ D := by
  subst hnm
  exact ⟨fun G0 H0 σ G H DH s d => tS_of (ps_set hNd hi hy (pe_kmeth F.slot_dict_pop F.type_dict_pop (mt_kpop hr) (pe_var hN hv hd hcd) (pa_cons pe_self pa_nil hs) hbase hfew hline hs hplain) hsw hf) (by
    obtain ⟨p, xs, e1, nb, z, hp, da, ki⟩ := kd_in s.gr.ok s.en hg
    refine ⟨_, e1, ⟨p, xs, G, rfl, ki⟩, (EvD.of h).run σ G H _ s.gr.ok s.en fun v G1 H1 dk g1 dx ⟨ns, dd, hk, hget, q⟩ => ?_⟩
    have da2 := KdK.ext g1.g da
    have hk2 := hk
    obtain ⟨ds, rfl, hn⟩ := hk
    obtain ⟨a, us, rfl, _, _⟩ := Dp.tup_inv dx
    have hp1 := g1.h _ _ nb hp
    have gp1 := g1.n _ _ hp z
    rcases da2.find ns with ⟨v1, d1, f1, f2, f3⟩ | ⟨f1, f2⟩
    · rw [hget] at f2
      cases f2
      refine ⟨p, a, xs, ns, v1, G1, rfl, rfl, ⟨hp1, g1.ok.ex, da2.keys⟩, ⟨_, dx, hk2⟩, f1, ?_⟩
      have s1 := s.grow g1
      have e2 : σ[j]? = some (some (.ref p)) := e1
      have hfr := s1.fr j _ p hg rfl e2
      have ok2 := g1.ok.mut nb gp1 (KdO p (kDel xs ns))
      have s2 : StOk X.K B G0 H0 σ G1 (upd H1 p (KdO p (kDel xs ns))) (Γ.set j (.kd (kvDel kvs ns))) := by
        refine ⟨⟨s1.gr.g, fun a o na e => ?_, s1.gr.n, ok2⟩, s1.en.mut (s' := .kd (kvDel kvs ns)) hg rfl e2 ⟨p, _, rfl, nb, gp1, upd_same, da2.del ns⟩ rfl, fun j' t q' e3 o3 e4 => ?_⟩
        · rw [upd_ne (ne_of_none e hfr)]
          exact s1.gr.h a o na e
        · by_cases hj : j = j'
          · subst hj
            rw [e2] at e4
            cases e4
            exact hfr
          · rw [List.getElem?_set_ne hj] at e3
            exact s1.fr j' t q' e3 o3 e4
      exact d.nx _ _ G1 _ (s2.asg (Grow.refl ok2) (Res.dat f3) i) q
    · rw [hget] at f2; cases f2)⟩
/-- d[k] = e -/
theorem rs_kdPut {k0 : Nat} {x : Str} {kexp value : Expr} (j : Nat) {kvs : List KV3} (hr : Room k0 X.A) (hg : Γ[j]? = some (.kd kvs)) (h : EvE X B value Γ (Sl.dat fun dv => EvE X B kexp Γ (Sl.dat fun dk => ∃ ns, KeyD dk ns ∧ kvs.length < 1000000 ∧ D.nx (Γ.set j (.kd (kvPut kvs ns dk dv))))))
    (hN : X.N[j]? = some x := by rfl) (hv : Vis X.env.scope x := by first | exact Or.inl rfl | exact Or.inr (Or.inl rfl) | exact Or.inr (Or.inr rfl)) (hd : (x == ("__debug__" : Str)) = false := by decide) (hcd : (x == ("__classdict__" : Str)) = false := by decide)
    (hs : swapsWithSole [.Subscript (.Name x p2) kexp p3] value pos.line X.env = pure false := by rfl) (hw : swappedStores [.Subscript (.Name x p2) kexp p3] value X.env = pure none := by rfl)
    (h1 : (assignEach [.Subscript (.Name x p2) kexp p3] X.env).map (·.2) = [assign (.Subscript (.Name x p2) kexp p3) X.env] := by rfl)
    (ha : ∀ v, assign (.Subscript (.Name x p2) kexp p3) X.env v = (do
      let ov ← holding [v] (eval (.Name x p2) X.env)
      let iv ← holding [v, ov] (eval kexp X.env)
      standAt p3
      holding [v, ov, iv] (setItem ov iv v)
      release [v, ov, iv] []) := by intro _; rfl) : RunS X B (.Assign [.Subscript (.Name x p2) kexp p3] value pos) Γ D :=
  ⟨fun G0 H0 σ G H DH s d => tS_of (ps_asg pe_self (pg_sub (pe_var hN hv hd hcd) pe_self (set_kd hr) ha) hs hw h1) ((EvD.of h).run σ G H _ s.gr.ok s.en fun v G1 H1 dv g1 dy h2 => by
    have s1 := s.grow g1
    obtain ⟨p, xs, e1, nb, z, hp, da, ki⟩ := kd_in s1.gr.ok s1.en hg
    refine ⟨_, e1, (EvD.of h2).run σ G1 H1 _ s1.gr.ok s1.en fun w G2 H2 dk g2 dx ⟨ns, hk, hlen, q⟩ => ?_⟩
    have s2 := s1.grow g2
    have da2 := KdK.ext g2.g da
    have hk2 := hk
    obtain ⟨ds, rfl, hn⟩ := hk
    obtain ⟨a, us, rfl, _, _⟩ := Dp.tup_inv dx
    have hp2 := g2.h _ _ nb hp
    have gp2 := g2.n _ _ hp z
    refine ⟨p, a, xs, ns, G2, rfl, rfl, ⟨hp2, g2.ok.ex, da2.keys⟩, ⟨_, dx, hk2⟩, by rw [da2.len]; exact hlen, ?_⟩
    have e2 : σ[j]? = some (some (.ref p)) := e1
    have hfr := s2.fr j _ p hg rfl e2
    have ok2 := g2.ok.mut nb gp2 (KdO p (kPut xs ns a v))
    refine d.nx _ σ G2 _ ⟨⟨s2.gr.g, fun a o na e => ?_, s2.gr.n, ok2⟩, s2.en.mut (s' := .kd (kvPut kvs ns _ dv)) hg rfl e2 ⟨p, _, rfl, nb, gp2, upd_same, da2.put ns hk2 dx (Dp.ext g2.g _ _ dy)⟩ rfl, fun j' t q' e3 o3 e4 => ?_⟩ q
    · rw [upd_ne (ne_of_none e hfr)]
      exact s2.gr.h a o na e
    · by_cases hj : j = j'
      · subst hj
        rw [e2] at e4
        cases e4
        exact hfr
      · rw [List.getElem?_set_ne hj] at e3
        exact s2.fr j' t q' e3 o3 e4)⟩
/-- k not in d -/
theorem et_kdNotIn {k0 : Nat} {x : Str} {f : Bool → Prop} (j : Nat) {kvs : List KV3} (hr : Room k0 X.A) (hg : Γ[j]? = some (.kd kvs)) (h : EvE X B ke Γ (Sl.dat fun dk => ∃ ns, KeyD dk ns ∧ f (!kvs.any fun kv => decide (kv.1 = ns)))) (hN : X.N[j]? = some x := by rfl)
    (hv : Vis X.env.scope x := by first | exact Or.inl rfl | exact Or.inr (Or.inl rfl) | exact Or.inr (Or.inr rfl)) (hd : (x == ("__debug__" : Str)) = false := by decide) (hcd : (x == ("__classdict__" : Str)) = false := by decide) (hm : behindInMarks .NotIn (.Name x p1) = false := by with_unfolding_all rfl) : EvT X B (.Compare ke [.NotIn] [.Name x p1] pos) Γ f :=
  ⟨fun σ G H Q ok en cont => tT_of (pt_cmpR (op_kNotIn hr) pe_self (pe_var hN hv hd hcd) hm) ((EvD.of h).run σ G H _ ok en fun v G1 H1 dk g1 dx ⟨ns, hk, q⟩ => by
    obtain ⟨p, xs, e1, nb, z, hp, da, ki⟩ := kd_in g1.ok (en.grow g1) hg
    have hk2 := hk
    obtain ⟨ds, rfl, hn⟩ := hk
    obtain ⟨a, us, rfl, _, _⟩ := Dp.tup_inv dx
    refine ⟨_, e1, p, a, xs, ns, G1, rfl, rfl, ki, ⟨_, dx, hk2⟩, _, rfl, cont _ G1 H1 g1 ?_⟩
    rw [da.any ns]
    exact q)⟩
/-- max(d, key=lambda one: one[1]): a key of d -/
theorem ee_kdMax {k0 : Nat} {jj} {q y x : Str} {params : Arguments} {scope : Scope} {q1 q2 q3 lpos kpos : Pos} (j : Nat) {kvs : List KV3} (L : LamHere X q) (F : LamFree X params scope) (S : Lam1 y params (.Subscript (.Name y q1) (.Constant (.int 1) jj q2) q3) scope)
    (hm : X.mg "max" = none) (hc : X.calm = true) (hr : Room k0 X.A) (hg : Γ[j]? = some (.kd kvs)) (hne : kvs ≠ []) (hkeys : ∀ kv ∈ kvs, ∃ d0 m d2 a c, kv.2.1 = .tuple [d0, .int m, d2] ∧ kv.1 = [a, m, c]) (cont0 : ∀ kv ∈ kvs, k (.d kv.2.1))
    (hN : X.N[j]? = some x := by rfl) (hv : Vis X.env.scope x := by first | exact Or.inl rfl | exact Or.inr (Or.inl rfl) | exact Or.inr (Or.inr rfl)) (hd : (x == ("__debug__" : Str)) = false := by decide) (hcd : (x == ("__classdict__" : Str)) = false := by decide)
    (hgl : Gl X "max" := by rfl) (he : backTo pos (starEach [.Name x p2] X.env) = (false, eval (.Name x p2) X.env) :: backTo pos (starEach [] X.env) := by rfl) (hpl : (backTo pos (starEach [.Name x p2] X.env)).any (·.1) = false := by rfl)
    (he2 : starEach [.Name x p2] X.env = (false, eval (.Name x p2) X.env) :: starEach [] X.env := by rfl)
    (hall : (backToKw pos (keywordEach [⟨some (Str.ofString "key"), .Lambda params (.Subscript (.Name y q1) (.Constant (.int 1) jj q2) q3) scope lpos, kpos⟩] X.env)).all (·.1.isSome) = true := by rfl)
    (hnone : (backToKw pos (keywordEach [⟨some (Str.ofString "key"), .Lambda params (.Subscript (.Name y q1) (.Constant (.int 1) jj q2) q3) scope lpos, kpos⟩] X.env)).any (·.1.isNone) = false := by rfl)
    (hks : (backToKw pos (keywordEach [⟨some (Str.ofString "key"), .Lambda params (.Subscript (.Name y q1) (.Constant (.int 1) jj q2) q3) scope lpos, kpos⟩] X.env)).filterMap (·.1) = [Str.ofString "key"] := by rfl) :
    EvE X B (.Call (.Name "max" p1) [.Name x p2] [⟨some (Str.ofString "key"), .Lambda params (.Subscript (.Name y q1) (.Constant (.int 1) jj q2) q3) scope lpos, kpos⟩] pos) Γ k :=
  ⟨fun σ G H Q ok en cont => tE_of (pe_callBK (cr_kmax S hc hr) hgl hm boot_max (pa_cons (pe_var hN hv hd hcd) pa_nil he2) (pk_cons pe_self pk_nil) (by decide) (by decide) he hpl hall hnone hks) (by
    obtain ⟨p, xs, e1, nb, z, hp, da, ki⟩ := kd_in ok en hg
    refine ⟨_, e1, lam_here (B := B) L F ok en fun f G2 H2 g2 la => ?_⟩
    have da2 := KdK.ext g2.g da
    have each : ∀ {xs : List KX} {kvs : List KV3}, KdK X.K G2 xs kvs → ∀ x ∈ xs, ∃ kv ∈ kvs, x.1 = kv.1 ∧ Dp X.K G2 (.ref x.2.1) kv.2.1 := by
      intro xs kvs h
      unfold KdK at h
      induction h with
      | nil => intro x hx; cases hx
      | @cons a b as bs r _ ih =>
        intro x hx
        rcases List.mem_cons.mp hx with e | e
        · exact ⟨b, List.mem_cons_self, by rw [e]; exact r.1, by rw [e]; exact r.2.2.1⟩
        · obtain ⟨kv, h1, h2⟩ := ih x e
          exact ⟨kv, List.mem_cons_of_mem _ h1, h2⟩
    have hlen := da.len
    refine ⟨p, f, xs, G2, rfl, rfl, la.ext g2.ok.ex, ⟨g2.h _ _ nb hp, g2.ok.ex, da2.keys⟩, ?_, fun x hx => ?_, fun x hx => ?_⟩
    · cases kvs with
      | nil => exact absurd rfl hne
      | cons _ _ => rw [hlen]; exact Nat.succ_pos _
    · obtain ⟨kv, h1, h2, h3⟩ := each da2 x hx
      obtain ⟨d0, m, d2, a, c, ek, en2⟩ := hkeys kv h1
      rw [ek] at h3
      obtain ⟨b, us, eb, hs, ha⟩ := Dp.tup_inv h3
      cases eb
      cases ha with
      | cons a1 a2 =>
        cases a2 with
        | cons a2 a3 =>
          cases a3 with
          | cons a3 a4 =>
            cases a4
            cases a2
            exact ⟨a, m, c, h2.trans en2, _, _, SqT.ext g2.ok.ex hs⟩
    · obtain ⟨kv, h1, h2, h3⟩ := each da2 x hx
      exact cont _ G2 H2 _ g2 (Res.dat h3) (cont0 kv h1))⟩
/-! ### dicts with int keys: get, items -/
def odGet (kvs : List (Key × PyData)) (n : Int) : Option PyData := (kvs.find? fun kv => decide (kv.1 = .inl n)).map (·.2)
end
end Ab
/-! dicts with int keys: get, items, sorted(items, reverse=True) -/
namespace Ab
open PySem PySem.Spec L2
def Sl.dk (f : List (Key × PyData) → Prop) : Sl → Prop
  | .od kvs => f kvs
  | _ => False
def keyD : Key → PyData
  | .inl n => .int n
  | .inr x => .str x
def itemD (kv : Key × PyData) : PyData := .tuple [keyD kv.1, kv.2]
section
variable {X : Cx} {B : Bg} {Γ : List Sl} {k : Sl → Prop} {e ke ve : Expr} {pos p1 p2 p3 : Pos} {D : Dn}
def tFrz (t : TE) : TE := fun σ H Q => t σ H fun x H1 => ∃ d u, x = .ref d ∧ H1 d = some u ∧ Mut (some u) ∧ ∀ od, Q x (upd H1 d (.frz od u))
theorem pe_frz {t : TE} (h : PE X e t) : PE X e (tFrz t) := ⟨fun pins s σ H Q I hw => thn (h.run pins s σ H _ I hw) fun v s1 ⟨x, H1, I1, r, d, u, ex, hd, mu, q⟩ => let ⟨od, I2⟩ := I1.lock hd mu; ⟨x, _, I2, r, q od⟩⟩
theorem dp_key {K : PySem.W.Frag} {G : Hp} (kk : Key) : Dp K G (kV kk) (keyD kk) := by
  cases kk with
  | inl n => exact .int n
  | inr x => exact .str x
theorem DpK.get {K : PySem.W.Frag} {G : Hp} {ks : List (Key × V)} {kvs : List (Key × PyData)} (h : DpK K G ks kvs) {i : Nat} {kk : Key} {v : V} (e : ks[i]? = some (kk, v)) : ∃ d, kvs[i]? = some (kk, d) ∧ Dp K G v d := by
  obtain ⟨⟨k2, d⟩, e2, h1, h2⟩ := paired_get h e
  have h1 : kk = k2 := h1
  subst h1
  exact ⟨d, e2, h2⟩
theorem wk_items {K : PySem.W.Frag} {G : Hp} {d : Addr} {o : Obj} {ks : List (Key × V)} {kvs : List (Key × PyData)} (hd : G d = some (.frz o (.dK ks))) (da : DpK K G ks kvs) : Wk K B (Iti d o ks) (kvs.map itemD) G where
  go := fun i H hi e => ⟨e _ _ hd, by rw [List.length_map, ← Paired.length da] at hi; exact hi⟩
  yl := fun i G' H x H' hi ok e y => by
    obtain ⟨T, kk, v, e1, rfl, hT, rfl⟩ := y
    obtain ⟨dd, e2, h2⟩ := da.get e1
    have gn := Grow.new ok hT (.tup [kV kk, v])
    exact ⟨itemD (kk, dd), _, by rw [List.getElem?_map, e2]; rfl, gn, .tup (SqT.of upd_same) (.cons (dp_key kk) (.cons (Dp.ext (e.trans gn.g) _ _ h2) .nil))⟩
  stop := fun H e => ⟨e _ _ hd, by rw [List.length_map, ← Paired.length da]; exact Nat.le_refl _⟩
/-- for k, v in e.items(), e a dict just made -/
theorem ei_items {elts : List Expr} {kk : Nat} {tpos apos : Pos} {nm : Str} {f : List PyData → Prop} (h : EvE X B e Γ (Sl.dk fun kvs => f (kvs.map itemD))) (hnm : nm = "items" := by rfl)
    (hbase : attributeBase e nm X.env (eval e X.env) = eval e X.env := by rfl) (hline : (apos.endLine == pos.line) = true := by rfl) :
    EvI X B (.Tuple elts kk tpos) (.Call (.Attribute e nm apos) [] [] pos) Γ f := by
  subst hnm
  exact ⟨fun σ G H R ok en cont => tI_of (pi_items (pe_frz pe_self) hbase hline) (h.run σ G H _ ok en fun v G1 H1 r g re kr => by
    cases r with
    | od kvs =>
      obtain ⟨⟨p, ks, rfl, nb, z, hp, da⟩, fr⟩ := re
      have hn := fr rfl p rfl
      refine ⟨p, .dK ks, rfl, hp, trivial, fun o => ⟨p, o, ks, rfl, upd_same, ?_⟩⟩
      have eg : Ext G1 (upd G1 p (.frz o (.dK ks))) := Ext.new z
      refine cont _ _ _ _ ⟨g.g.trans eg, fun a u na e => ?_, fun a u e y => ?_, (g.ok.mut nb z (.frz o (.dK ks))).frz nb upd_same z⟩ (wk_items upd_same (da.ext eg)) kr
      · rw [upd_ne (ne_of_none e hn)]
        exact g.h a u na e
      · rw [upd_ne (ne_of_none e hn)]
        exact g.n a u e y
    | _ => exact kr.elim)⟩
theorem valV_od {K : PySem.W.Frag} {G : Hp} {ks : List (Key × V)} {kvs : List (Key × PyData)} (h : DpK K G ks kvs) (n : Int) : (∃ v d, valV ks (.inl n) = some v ∧ odGet kvs n = some d ∧ Dp K G v d) ∨ (valV ks (.inl n) = none ∧ odGet kvs n = none) := by
  unfold DpK at h
  induction h with
  | nil => exact .inr ⟨rfl, rfl⟩
  | @cons x y xs ys r _ ih =>
    unfold valV odGet at ih ⊢
    rw [List.find?_cons, List.find?_cons, ← r.1]
    by_cases h : x.1 = .inl n
    · rw [decide_eq_true h]
      exact .inl ⟨_, _, rfl, rfl, r.2⟩
    · rw [decide_eq_false h]
      exact ih
/-- d.get(n, e) -/
theorem ee_odGet {k0 : Nat} {x nm : Str} {apos : Pos} (j : Nat) {kvs : List (Key × PyData)} (hr : Room k0 X.A) (hg : Γ[j]? = some (.od kvs)) (h : EvE X B ke Γ (Sl.int fun n => EvE X B ve Γ (Sl.dat fun dv => k (.d ((odGet kvs n).getD dv))))) (hnm : nm = "get" := by rfl)
    (hN : X.N[j]? = some x := by rfl) (hv : Vis X.env.scope x := by first | exact Or.inl rfl | exact Or.inr (Or.inl rfl) | exact Or.inr (Or.inr rfl)) (hd : (x == ("__debug__" : Str)) = false := by decide) (hcd : (x == ("__classdict__" : Str)) = false := by decide)
    (hm : M2 X (.Name x p1) nm apos ke ve pos := by exact ⟨rfl, rfl, rfl, rfl⟩) :
    EvE X B (.Call (.Attribute (.Name x p1) nm apos) [ke, ve] [] pos) Γ k := by
  subst hnm
  exact ⟨fun σ G H Q ok en cont => tE_of (pe_dget2 (hu_of hr) (pe_var hN hv hd hcd) pe_self pe_self hm) (by
    obtain ⟨v', e1, p, ks, ev, nb, z, hp, da⟩ := en.ok j _ hg (by simp)
    subst ev
    refine ⟨_, e1, p, rfl, .inl ⟨ks, .inl hp⟩, h.run σ G H _ ok en fun v G1 H1 r g1 re k1 => ?_⟩
    obtain ⟨n, rfl, h2⟩ := int_inv re k1
    refine (EvD.of h2).run σ G1 H1 _ g1.ok (en.grow g1) fun y G2 H2 dv g2 dy q => ?_
    have g := g1.trans g2
    refine ⟨_, DGet.k (k := .inl n) (g.h _ _ nb hp), ?_⟩
    rcases valV_od (da.ext g.g) n with ⟨v1, d1, f1, f2, f3⟩ | ⟨f1, f2⟩
    · rw [f1]
      rw [f2] at q
      exact cont _ G2 H2 _ g (Res.dat f3) q
    · rw [f1]
      rw [f2] at q
      exact cont _ G2 H2 _ g (Res.dat dy) q)⟩
/-- e.get(n, x), e a dict just made -/
theorem ee_dkGet {k0 : Nat} {nm : Str} {apos : Pos} (hr : Room k0 X.A) (h : EvE X B e Γ (Sl.dk fun kvs => EvE X B ke Γ (Sl.int fun n => EvE X B ve Γ (Sl.dat fun dv => k (.d ((odGet kvs n).getD dv)))))) (hnm : nm = "get" := by rfl)
    (hm : M2 X e nm apos ke ve pos := by exact ⟨rfl, rfl, rfl, rfl⟩) :
    EvE X B (.Call (.Attribute e nm apos) [ke, ve] [] pos) Γ k := by
  subst hnm
  exact ⟨fun σ G H Q ok en cont => tE_of (pe_dget2 (hu_of hr) pe_self pe_self pe_self hm) (h.run σ G H _ ok en fun v G0 H0 r g0 re kr => by
    cases r with
    | od kvs =>
      obtain ⟨⟨p, ks, rfl, nb, z, hp, da⟩, fr⟩ := re
      have h : EvE X B ke Γ (Sl.int fun n => EvE X B ve Γ (Sl.dat fun dv => k (.d ((odGet kvs n).getD dv)))) := kr
      refine ⟨p, rfl, .inl ⟨ks, .inl hp⟩, h.run σ G0 H0 _ g0.ok (en.grow g0) fun v G1 H1 r g1 re k1 => ?_⟩
      obtain ⟨n, rfl, h2⟩ := int_inv re k1
      refine (EvD.of h2).run σ G1 H1 _ g1.ok ((en.grow g0).grow g1) fun y G2 H2 dv g2 dy q => ?_
      have g := g1.trans g2
      refine ⟨_, DGet.k (k := .inl n) (g.h _ _ nb hp), ?_⟩
      rcases valV_od (da.ext g.g) n with ⟨v1, d1, f1, f2, f3⟩ | ⟨f1, f2⟩
      · rw [f1]
        rw [f2] at q
        exact cont _ G2 H2 _ (g0.trans g) (Res.dat f3) q
      · rw [f1]
        rw [f2] at q
        exact cont _ G2 H2 _ (g0.trans g) (Res.dat dy) q
    | _ => exact kr.elim)⟩
end
/-! ### sorted(d.items(), reverse=True), keys and values ints -/
section
variable {prog : Program} {w : World} {A : Around} {E : Value → Shared → Prop} {s : Shared} {r d : Addr} {es : Array DictEntry} {ep : Nat}
theorem sortedIR {b : Bool} {Q : Value → Shared → Prop} (hh : A.handled = none) (hv : s.heap.IsItemsView r d) (hm : DT.Raw s.heap d es ep) (hn : es.size ≤ sizeLine)
    (h : ∀ (h' : Heap) (tk : Nat) (as : List Addr), (∀ b o, s.heap.get? b = some o → h'.get? b = some o) → s.heap.objs.size < h'.objs.size → as.length = es.size → DT.Made es s.heap.objs.size h' as →
      wpAny (model prog w) A.in1 (call (.builtin "list.sort") [.ref h'.objs.size] [(Str.ofString "reverse", .bool b)]) (fun _ s' => Q (.ref h'.objs.size) s') E { s with heap := h'.push { cls := .type "list", data := .seq (as.map Value.ref).toArray }, toks := tk }) :
    wpAny (model prog w) A (call (.builtin "sorted") [.ref r] [(Str.ofString "reverse", .bool b)]) Q E s := by
  refine PyProof.Rows.call_function_entry_kw PyProof.Rows.kind_sorted PyProof.Rows.plain_sorted PyProof.Rows.entry_sorted (PyProof.Rows.args_sorted_rev _ _) ?_
  unfold Builtin.«sorted»
  refine wpAny_bind (m := checkCount "sorted" 1 1 _) (wpAny_pure ?_)
  refine wpAny_bind (DT.collectI (A := A.in1) (es := es) (ep := ep) hh hv hm hn fun h' tk as hk hlt hl hG => ?_)
  refine wpAny_bind (wpAny_newList ?_ (by rw [List.length_map, hl]; exact hn))
  have hg := h h' tk as hk hlt hl hG
  refine wpAny_bind (wpAny_holding (wpAny_mono hg (fun _ s' x => ?_) fun _ _ e => e))
  exact wpAny_pure ⟨_, rfl, x⟩
end
def encI (b : Int × Int) : PyData := .tuple [.int b.1, .int b.2]
theorem encI_le : PySem.W.dataLe true encI = fun p q => decide (q.1 < p.1 ∨ (q.1 = p.1 ∧ q.2 ≤ p.2)) := by
  funext p q
  show (!PySem.W.dataLt (.tuple [.int p.1, .int p.2]) (.tuple [.int q.1, .int q.2])) = _
  rw [PySem.W.dataLt_ii]
  by_cases h : p.1 < q.1 ∨ (p.1 = q.1 ∧ p.2 < q.2)
  · have h' : ¬ (q.1 < p.1 ∨ (q.1 = p.1 ∧ q.2 ≤ p.2)) := by omega
    simp [h, h']
  · have h' : q.1 < p.1 ∨ (q.1 = p.1 ∧ q.2 ≤ p.2) := by omega
    simp [h, h']
theorem encI_sorted (kms : List (Int × Int)) : (kms.mergeSort (PySem.W.dataLe true encI)).Pairwise fun p q => q.1 ≤ p.1 := by
  have h := List.pairwise_mergeSort (le := PySem.W.dataLe true encI) (fun a b c h1 h2 => by
    rw [encI_le] at h1 h2 ⊢
    simp only [decide_eq_true_eq] at h1 h2 ⊢
    omega) (fun a b => by
    rw [encI_le]
    simp only [Bool.or_eq_true, decide_eq_true_eq]
    omega) kms
  refine List.Pairwise.imp (fun {a b} h => ?_) h
  rw [encI_le] at h
  simp only [decide_eq_true_eq] at h
  omega
theorem pairs_get {K : Type} [DecidableEq K] {P : Program} {w : World} {knd : KeyKind P w K} : ∀ {es : List DictEntry} {vs : List (K × Value)} {j : Nat} {k : K} {v : Value}, Pairs knd es vs → vs[j]? = some (k, v) → ∃ e, es[j]? = some e ∧ knd.is k e.key = true ∧ e.val = v
  | _, _, _, _, _, .nil, h => by simp at h
  | _, _, 0, _, _, .cons a b _, h => by
    simp only [List.getElem?_cons_zero, Option.some.injEq] at h
    subst h
    exact ⟨_, rfl, a, b⟩
  | _, _, j + 1, _, _, .cons _ _ t, h => by
    simp only [List.getElem?_cons_succ] at h ⊢
    exact pairs_get t h
def rSortIR : List V → List V → Hp → VK → Prop := fun vs zs H Q => ∃ (p a : Addr) (kms : List (Int × Int)), vs = [.ref p] ∧ zs = [.bl true] ∧ H p = some (DX.itemsO p a) ∧ H a = some (.dK (kms.map fun x => ((Sum.inl x.1 : Key), V.int x.2))) ∧ kms.length ≤ 1000000 ∧
  ∀ (H' : Hp) (l : Addr) (as : List Addr) (zs : List (Addr × Int × Int)), (∀ b o, H b = some o → H' b = some o) → (∀ a ∈ as, H a = none) → H l = none → l ∉ as → zs.map (·.2) = kms.mergeSort (PySem.W.dataLe true encI) →
    H' l = some (.lst (zs.map fun z => V.ref z.1)) → (∀ z ∈ zs, z.1 ∈ as ∧ H' z.1 = some (.tup [.int z.2.1, .int z.2.2])) → Q (.ref l) H'
theorem cr_sortIR {X : Cx} {k0 : Nat} (hc : X.calm = true) (hr : Room k0 X.A) : CallRK X (.builtin "sorted") [Str.ofString "reverse"] rSortIR := by
  intro pins s σ H xs zs us ws Q I r rz h
  obtain ⟨p, a, kms, rfl, rfl, hp, ha, hz1, q⟩ := h
  obtain rfl := Vals.ref1 r
  obtain ⟨w1, rfl, e1⟩ := vals1 rz
  obtain rfl : w1 = Value.bool true := e1
  have hline : (1000000 : Nat) ≤ sizeLine := by decide
  have view : s.heap.IsItemsView p a := (show ObjOk X.prog X.w H s.heap p (DX.itemsO p a) from I.hok p _ hp).1
  obtain ⟨z, hd, vs, rel, o, es, ep, ho, hx, hdat, hko, hpr, hn⟩ := dk_of I.hok ha
  have l1 : kms.length = vs.length := by rw [← Paired.length rel, List.length_map]
  have l2 : es.size = vs.length := by rw [← hpr.length]; rfl
  have hh : X.A.handled = none := I.ok.hd hc
  show wpAny (model X.prog X.w) X.A (call (.builtin "sorted") [.ref p] [(Str.ofString "reverse", .bool true)]) _ _ _
  refine sortedIR (es := es) (ep := ep) hh view ⟨o, ho, hx, hdat⟩ (by omega) fun h' tk as hk hlt hl hG => ?_
  have lak : as.length = kms.length := by omega
  have nd : as.Nodup := List.Pairwise.imp (fun h => Nat.ne_of_lt h) hG.rise
  have pr : ∀ (j : Nat) (b : Addr), as[j]? = some b → ∃ (x : Int × Int) (t1 t2 : Tok), kms[j]? = some x ∧ h'.get? b = some { cls := .type "tuple", data := .seq #[Value.int x.1 t1, Value.int x.2 t2] } := by
    intro j b hj
    obtain ⟨en, he, hg⟩ := hG.pairs j b hj
    have hjl : j < kms.length := by rw [← lak]; exact (List.getElem?_eq_some_iff.mp hj).1
    have hkj : kms[j]? = some kms[j] := List.getElem?_eq_getElem hjl
    have hkj2 : (kms.map fun x => ((Sum.inl x.1 : Key), V.int x.2))[j]? = some (Sum.inl kms[j].1, V.int kms[j].2) := by rw [List.getElem?_map, hkj]; rfl
    obtain ⟨u, hu, ru⟩ := kv_get rel hkj2
    obtain ⟨e2, he2, hk2, hv2⟩ := pairs_get hpr hu
    have : e2 = en := Option.some.inj (he2.symm.trans (by rw [← he]; simp))
    subst this
    obtain ⟨t2, rfl⟩ := (show ∃ t, u = Value.int kms[j].2 t from ru)
    rcases keyIs_shape (show keyIs (Sum.inl kms[j].1) e2.key = true from hk2) with ⟨i, t, h1, h2⟩ | ⟨x, t, h1, h2⟩
    · have h1 := Sum.inl.inj h1
      subst h1
      exact ⟨kms[j], t, t2, hkj, by rw [hg, h2, hv2]⟩
    · cases h1
  have hob : (h'.push { cls := .type "list", data := .seq (as.map Value.ref).toArray }).get? h'.objs.size = some (PyProof.Rows.seqObj "list" (as.map Value.ref).toArray 0) := Heap.get?_push_size _ rfl
  have kb : ∀ b o, s.heap.get? b = some o → (h'.push { cls := .type "list", data := .seq (as.map Value.ref).toArray }).get? b = some o := fun b o e => Heap.get?_push_of_some _ (hk b o e)
  have ne0 : ∀ b o, h'.get? b = some o → b ≠ h'.objs.size := fun b o e => Nat.ne_of_lt (Heap.lt_size e)
  generalize hh2 : h'.push { cls := .type "list", data := .seq (as.map Value.ref).toArray } = h2 at hob kb ⊢
  have ka : ∀ b o, h'.get? b = some o → h2.get? b = some o := fun b o e => by rw [← hh2]; exact Heap.get?_push_of_some _ e
  have mk : ∀ (as : List Addr) (kms : List (Int × Int)), (∀ (j : Nat) (b : Addr), as[j]? = some b → ∃ (x : Int × Int) (t1 t2 : Tok), kms[j]? = some x ∧ h2.get? b = some { cls := .type "tuple", data := .seq #[Value.int x.1 t1, Value.int x.2 t2] }) → as.length = kms.length →
      PySem.W.EachIs (fun (v : Value) (b : Addr × Int × Int) => v = Value.ref b.1) (as.map Value.ref) (as.zip kms) ∧ PySem.W.EachIs (fun (v : Value) (b : Addr × Int × Int) => ∃ rs, Reads h2 v (encI b.2) rs ∧ h'.objs.size ∉ rs) (as.map Value.ref) (as.zip kms) := by
    intro as
    induction as with
    | nil => intro kms _ _; exact ⟨.nil, .nil⟩
    | cons a as ih =>
      intro kms h hl
      cases kms with
      | nil => cases hl
      | cons x kms =>
        obtain ⟨x', t1, t2, hx, hg⟩ := h 0 a rfl
        cases hx
        have ih := ih kms (fun j b hj => h (j + 1) b hj) (Nat.succ.inj hl)
        exact ⟨.cons rfl ih.1, .cons ⟨_, .tuple hg rfl rfl (.cons (.int _ _) (.cons (.int _ _) .nil)), by simp⟩ ih.2⟩
  have each := mk as kms (fun j b hj => let ⟨x, t1, t2, hx, hg⟩ := pr j b hj; ⟨x, t1, t2, hx, ka _ _ hg⟩) lak
  have hzl : (as.zip kms).length = kms.length := by rw [List.length_zip, lak, Nat.min_self]
  refine PySem.W.list_sort_rev_data (s := { s with heap := h2, toks := tk }) (enc := fun b : Addr × Int × Int => encI b.2) hob each.1 each.2 (PySem.W.AllAlike.of fun b b' => by simp [encI, PySem.W.alike, PySem.W.alikeAll]) (PySem.W.Sortable.tuples fun b => ⟨_, _, rfl⟩) (by rw [hzl]; omega) (fun b _ => ?_) fun out hol hout => ?_
  · have := hr.units
    have hdep : (encI b.2).depth = 1 := by simp [encI, PyData.depth, PyData.depthAll]
    rw [hdep]
    show X.A.units + 1 + 1 + 1 < cLine
    omega
  · generalize hzs : (as.zip kms).mergeSort (PySem.W.dataLe true fun b : Addr × Int × Int => encI b.2) = zs at hout
    have pz : zs.Perm (as.zip kms) := by rw [← hzs]; exact List.mergeSort_perm _ _
    have hsort : zs.map (·.2) = kms.mergeSort (PySem.W.dataLe true encI) := by
      rw [← hzs]
      refine (PySem.W.sort_maps (s := PySem.W.dataLe true encI) (f := fun b : Addr × Int × Int => b.2) (fun _ _ _ _ => rfl)).trans ?_
      congr 1
      exact List.map_snd_zip (by rw [lak]; exact Nat.le_refl _)
    have hout2 : out = zs.map fun z => Value.ref z.1 := by
      clear hzs pz hsort hol
      induction hout with
      | nil => rfl
      | cons a _ ih => rw [a, ih]; rfl
    show EP X pins σ Q (.ref h'.objs.size) { s with heap := PyProof.Rows.sortedHeap h2 h'.objs.size (as.map Value.ref) out.toArray, toks := tk }
    have kF : ∀ b o, b ≠ h'.objs.size → h2.get? b = some o → (PyProof.Rows.sortedHeap h2 h'.objs.size (as.map Value.ref) out.toArray).get? b = some o := fun b o hb e => (PyProof.Rows.sortedHeap_old hb (Heap.lt_size e)).trans e
    have kS : ∀ b o, s.heap.get? b = some o → (PyProof.Rows.sortedHeap h2 h'.objs.size (as.map Value.ref) out.toArray).get? b = some o := fun b o e => kF b o (ne0 _ _ (hk b o e)) (kb b o e)
    obtain ⟨eF, heF⟩ := PyProof.Rows.sortedHeap_at (vs := as.map Value.ref) (out := out.toArray) hob
    have I1 : Inv X pins σ H { s with heap := PyProof.Rows.sortedHeap h2 h'.objs.size (as.map Value.ref) out.toArray, toks := tk } := I.kept (t' := tk) kS
    have hn0 : H h'.objs.size = none := I.hok.fresh (Nat.le_of_lt hlt)
    have hlen : (zs.map fun z => V.ref z.1).length ≤ sizeLine := by
      rw [List.length_map, pz.length_eq, hzl]
      omega
    have rv : Vals (zs.map fun z => V.ref z.1) out := by
      rw [hout2]
      exact vals_maps (fun z : Addr × Int × Int => V.ref z.1) (fun z => Value.ref z.1) zs fun _ _ => rfl
    have I2 : Inv X pins σ (upd H h'.objs.size (.lst (zs.map fun z => V.ref z.1))) { s with heap := PyProof.Rows.sortedHeap h2 h'.objs.size (as.map Value.ref) out.toArray, toks := tk } :=
      I1.take (h' := PyProof.Rows.sortedHeap h2 h'.objs.size (as.map Value.ref) out.toArray) (t' := tk) (fun b ob _ e => e) (I.fpOk (Nat.le_of_lt hlt) hn0) ⟨hlen, out, eF, rv, heF⟩
    obtain ⟨H2, I3, g, qt⟩ := DX.takeT (P := fun b vs => ∃ (j : Nat) (x : Int × Int), as[j]? = some b ∧ kms[j]? = some x ∧ vs = [.int x.1, .int x.2]) I as _ I2 nd fun b hb => by
      obtain ⟨j, hj⟩ := List.mem_iff_getElem?.mp hb
      obtain ⟨x, t1, t2, hx, hg⟩ := pr j b hj
      have hbl : s.heap.objs.size ≤ b := Nat.le_of_lt (hG.above b hb)
      refine ⟨hbl, ?_, [.int x.1, .int x.2], ⟨j, x, hj, hx, rfl⟩, fun H3 => ⟨(by show 2 ≤ sizeLine; omega), [Value.int x.1 t1, Value.int x.2 t2], .cons ⟨_, rfl⟩ (.cons ⟨_, rfl⟩ .nil), ⟨_, kF _ _ (ne0 _ _ hg) (ka _ _ hg), rfl, 0, rfl⟩⟩⟩
      rw [upd_ne (ne0 _ _ hg)]
      exact I.hok.fresh hbl
    have gr : ∀ b o, H b = some o → H2 b = some o := fun b o e => g b o (by rw [upd_ne (ne_of_none e hn0)]; exact e)
    refine ⟨.ref h'.objs.size, H2, I3, rfl, q H2 h'.objs.size as zs gr (fun b hb => I.hok.fresh (Nat.le_of_lt (hG.above b hb))) hn0 (fun hin => ?_) hsort (g _ _ upd_same) fun z' hz' => ?_⟩
    · obtain ⟨j, hj⟩ := List.mem_iff_getElem?.mp hin
      obtain ⟨x, t1, t2, hx, hg⟩ := pr j _ hj
      exact ne0 _ _ hg rfl
    · obtain ⟨i, hi⟩ := List.mem_iff_getElem?.mp (pz.mem_iff.mp hz')
      obtain ⟨i1, i2⟩ := List.getElem?_zip_eq_some.mp hi
      have hin := List.mem_of_getElem? i1
      obtain ⟨vs, ⟨j, x, j1, j2, ev⟩, hH⟩ := qt z'.1 hin
      have eij : i = j := (List.getElem?_inj (List.getElem?_eq_some_iff.mp i1).1 nd).mp (i1.trans j1.symm)
      subst eij
      have ee : x = z'.2 := Option.some.inj (j2.symm.trans i2)
      rw [ev, ee] at hH
      exact ⟨hin, hH⟩
section
variable {X : Cx} {B : Bg} {Γ : List Sl} {k : Sl → Prop} {e ke ve : Expr} {pos p1 p2 p3 : Pos}
/-- new objects, of which some are immutable -/
theorem Grow.more {G H H2 : Hp} (ok : Ok B G H) (ex : ∀ b o, H b = some o → H2 b = some o) (as : List Addr) (hn : ∀ a ∈ as, H a = none) : Grow B G H (fun a => if a ∈ as then H2 a else G a) H2 := by
  have out : ∀ {a : Addr} {o : HO}, H a = some o → a ∉ as := fun e h => by rw [hn _ h] at e; cases e
  have eG : Ext G (fun a => if a ∈ as then H2 a else G a) := fun a o e => by
    show (if a ∈ as then H2 a else G a) = some o
    rw [if_neg (out (ok.ex a o e))]
    exact e
  refine ⟨eG, fun a o _ e => ex a o e, fun a o e z => ?_, fun a o e => ?_, fun b hb => ?_, fun t ht => ?_⟩
  · show (if a ∈ as then H2 a else G a) = none
    rw [if_neg (out e)]
    exact z
  · have e : (if a ∈ as then H2 a else G a) = some o := e
    by_cases h : a ∈ as
    · rw [if_pos h] at e; exact e
    · rw [if_neg h] at e; exact ex _ _ (ok.ex a o e)
  · obtain ⟨z, dl, i, ns, e1, e2, r⟩ := ok.bag b hb
    refine ⟨?_, dl, i, ns, ex _ _ e1, eG _ _ e2, r⟩
    show (if b ∈ as then H2 b else G b) = none
    rw [if_neg (out e1)]
    exact z
  · obtain ⟨z, y⟩ := ok.tab t ht
    obtain ⟨ps, e1⟩ := y.some
    refine ⟨?_, y.mono eG ((ex _ _ e1).trans e1.symm)⟩
    show (if t.1 ∈ as then H2 t.1 else G t.1) = none
    rw [if_neg (out e1)]
    exact z
/-- o.items() -/
theorem pe_itemsV {o : Expr} {apos cpos : Pos} {td : TE} (ho : PE X o td) (hbase : attributeBase o "items" X.env (eval o X.env) = eval o X.env) (hline : (apos.endLine == cpos.line) = true) :
    PE X (.Call (.Attribute o "items" apos) [] [] cpos) (fun σ H Q => td σ H fun x H1 => ∃ a kvs, x = .ref a ∧ H1 a = some (.dK kvs) ∧ ∀ p, H1 p = none → Q (.ref p) (upd H1 p (DX.itemsO p a))) := by
  refine ⟨fun pins s σ H Q I h => ?_⟩
  refine wpAny_Call_method (T := "dict") (id := "dict.items") hbase rfl hline F.plainAttrs_dict F.slot_dict_items F.type_dict_items (thn (ho.run pins s σ H _ I h) fun u s1 ⟨x, H1, I1, rx, d, kvs, ex, hd, q⟩ => ?_)
  subst ex
  obtain rfl : u = Value.ref d := rx
  obtain ⟨z, hs, vs, rel, dd⟩ := dk_of I1.hok hd
  refine ⟨dd.typeIs, dd.mapOf.noDict, ?_⟩
  have fin : EP X pins σ Q (.ref s1.heap.objs.size) { s1 with heap := s1.heap.push { cls := .type "dict_items", data := .fields #[.ref d] } } :=
    ⟨.ref s1.heap.objs.size, upd H1 s1.heap.objs.size (DX.itemsO s1.heap.objs.size d), I1.laid (t' := s1.toks) (fun b u e => Heap.get?_push_of_some _ e) (Nat.le_refl _) (DX.itemsO_ok (Heap.get?_push_size _ rfl)), rfl, q _ (I1.hok.fresh (Nat.le_refl _))⟩
  show wpAny _ _ (callWith cpos (.builtin "dict.items") [.ref d] [] []) _ X.xe s1
  exact method_meetsIn F.slot_dict_items F.entry_dict_items rfl (PySem.evalArgs_none ⟨rfl, dd.typeIs, F.args_dict_items_1 _, _, meets_dict_items (mixKind X.prog X.w) d hs, ⟨vs, dd⟩, fin⟩)
/-- sorted(x.items(), reverse=True): x a dict whose keys and values are ints -/
theorem ee_sortItR {k0 : Nat} {x nm : Str} {jj} {apos cpos kpos q1 : Pos} (j : Nat) {kvs : List (Key × PyData)} (kms : List (Int × Int)) (hm : X.mg "sorted" = none) (hc : X.calm = true) (hr : Room k0 X.A) (hg : Γ[j]? = some (.od kvs)) (hk : kvs = kms.map fun z => (Sum.inl z.1, .int z.2)) (hz : kms.length ≤ 1000000)
    (q : k (.ol ((kms.mergeSort (PySem.W.dataLe true encI)).map encI))) (hnm : nm = "items" := by rfl)
    (hN : X.N[j]? = some x := by rfl) (hv : Vis X.env.scope x := by first | exact Or.inl rfl | exact Or.inr (Or.inl rfl) | exact Or.inr (Or.inr rfl)) (hd : (x == ("__debug__" : Str)) = false := by decide) (hcd : (x == ("__classdict__" : Str)) = false := by decide)
    (hgl : Gl X "sorted" := by rfl)
    (hbase : attributeBase (.Name x p2) nm X.env (eval (.Name x p2) X.env) = eval (.Name x p2) X.env := by rfl) (hline : (apos.endLine == cpos.line) = true := by rfl)
    (he : backTo pos (starEach [.Call (.Attribute (.Name x p2) nm apos) [] [] cpos] X.env) = (false, eval (.Call (.Attribute (.Name x p2) nm apos) [] [] cpos) X.env) :: backTo pos (starEach [] X.env) := by rfl) (hpl : (backTo pos (starEach [.Call (.Attribute (.Name x p2) nm apos) [] [] cpos] X.env)).any (·.1) = false := by rfl)
    (he2 : starEach [.Call (.Attribute (.Name x p2) nm apos) [] [] cpos] X.env = (false, eval (.Call (.Attribute (.Name x p2) nm apos) [] [] cpos) X.env) :: starEach [] X.env := by rfl)
    (hall : (backToKw pos (keywordEach [⟨some (Str.ofString "reverse"), .Constant (.bool true) jj q1, kpos⟩] X.env)).all (·.1.isSome) = true := by rfl)
    (hnone : (backToKw pos (keywordEach [⟨some (Str.ofString "reverse"), .Constant (.bool true) jj q1, kpos⟩] X.env)).any (·.1.isNone) = false := by rfl)
    (hks : (backToKw pos (keywordEach [⟨some (Str.ofString "reverse"), .Constant (.bool true) jj q1, kpos⟩] X.env)).filterMap (·.1) = [Str.ofString "reverse"] := by rfl) :
    EvE X B (.Call (.Name "sorted" p1) [.Call (.Attribute (.Name x p2) nm apos) [] [] cpos] [⟨some (Str.ofString "reverse"), .Constant (.bool true) jj q1, kpos⟩] pos) Γ k := by
  subst hnm
  exact ⟨fun σ G H Q ok en cont => tE_of (pe_callBK (cr_sortIR hc hr) hgl hm boot_sorted (pa_cons (pe_itemsV (pe_var hN hv hd hcd) hbase hline) pa_nil he2) (pk_cons pe_bl pk_nil) (by decide) (by decide) he hpl hall hnone hks) (by
    obtain ⟨v', e1, a, ks, ev, nb, z, ha, da⟩ := en.ok j _ hg (by simp)
    subst ev
    have hks : ks = kms.map fun z => ((Sum.inl z.1 : Key), V.int z.2) := by
      rw [hk] at da
      clear hk hz q ha hg e1
      unfold DpK at da
      induction kms generalizing ks with
      | nil => cases da; rfl
      | cons y r ih =>
        cases da with
        | @cons x' _ xs' _ h1 h2 =>
          obtain ⟨x1, x2⟩ := x'
          obtain ⟨h3, h4⟩ := h1
          have h3 : x1 = Sum.inl y.1 := h3
          have h4 : Dp X.K G x2 (.int y.2) := h4
          subst h3
          cases h4
          rw [List.map_cons, ih _ h2]
    refine ⟨_, e1, a, ks, rfl, ha, fun p hp => ?_⟩
    have g1 := Grow.newOwn (G := G) ok hp (DX.itemsO p a)
    refine ⟨p, a, kms, rfl, rfl, upd_same, by rw [upd_ne (ne_of_none ha hp), ha, hks], hz, fun H' l as zs ex hn hl hna hs hl2 hzs => ?_⟩
    have g2 := Grow.more g1.ok ex as hn
    refine cont _ _ H' (.ol ((kms.mergeSort (PySem.W.dataLe true encI)).map encI)) (g1.trans g2) ⟨⟨l, _, rfl, g1.ok.notfree hl, ?_, hl2, ?_⟩, fun _ p e => by cases e; exact g1.free hl⟩ q
    · show (if l ∈ as then H' l else G l) = none
      rw [if_neg hna]
      exact g1.ok.ex.free hl
    · rw [← hs]
      clear hs hl2
      induction zs with
      | nil => exact .nil
      | cons z r ih =>
        obtain ⟨h1, h2⟩ := hzs z List.mem_cons_self
        refine .cons (.tup (SqT.of ?_) (.cons (.int _) (.cons (.int _) .nil))) (ih fun z hz => hzs z (List.mem_cons_of_mem _ hz))
        show (if z.1 ∈ as then H' z.1 else G z.1) = some _
        rw [if_pos h1]
        exact h2)⟩
end
end Ab
/-! range(a, b, -1); n in l, l.count(n): l a list of ints and None; x in l over data -/
namespace Ab
open PySem PySem.Spec L2
section
variable {X : Cx} {B : Bg} {Γ : List Sl} {k : Sl → Prop} {a b e e1 e2 e3 : Expr} {pos p1 p2 p3 : Pos} {D : Dn}
theorem hu65 {k0 : Nat} {A : Around} (hr : Room k0 A) : A.units + 65 < cLine := by have := hr.un; omega
/-- hi, hi - 1, .. (n of them) -/
def rgd (hi : Int) (n : Nat) : List PyData := (List.range n).map fun (i : Nat) => .int (hi + (i : Int) * -1)
theorem rgd_length (lo : Int) (n : Nat) : (rgd lo n).length = n := by unfold rgd; rw [List.length_map, List.length_range]
theorem wk_rngd {K : PySem.W.Frag} {G : Hp} (lo : Int) (n : Nat) : Wk K B (Itc lo (-1) n) (rgd lo n) G where
  go := fun i H hi _ => by rw [rgd_length] at hi; exact hi
  yl := fun i G' H x H' hi o e y => by
    obtain ⟨rfl, rfl⟩ := y
    rw [rgd_length] at hi
    refine ⟨_, G', ?_, Grow.refl o, .int _⟩
    unfold rgd
    rw [List.getElem?_map, List.getElem?_range hi]
    rfl
  stop := fun H _ => by rw [rgd_length]; exact Nat.le_refl _
theorem ei_rngd {tg : Expr} {f : List PyData → Prop} (hm : X.mg "range" = none) (h : EvE X B e1 Γ (Sl.int fun i => EvE X B e2 Γ (Sl.int fun j => EvE X B e3 Γ (Sl.int fun c => c = -1 ∧ Rb i ∧ Rb j ∧ f (rgd i (i - j).toNat))))) (hg : Gl X "range" := by rfl)
    (hs : starEach [e1, e2, e3] X.env = (false, eval e1 X.env) :: starEach [e2, e3] X.env := by rfl) (hpl : (backTo pos (starEach [e2, e3] X.env)).any (·.1) = false := by rfl)
    (hs2 : starEach [e2, e3] X.env = (false, eval e2 X.env) :: starEach [e3] X.env := by rfl) (hs3 : starEach [e3] X.env = (false, eval e3 X.env) :: starEach [] X.env := by rfl) :
    EvI X B tg (.Call (.Name "range" p1) [e1, e2, e3] [] pos) Γ f :=
  ⟨fun σ G H R o en cont => tI_of (pi_range3 hg hm (pa_cons pe_self (pa_cons pe_self (pa_cons pe_self pa_nil hs3) hs2) hs) hs hpl) (h.run σ G H _ o en fun v G1 H1 r g re kr => by
    obtain ⟨i, rfl, q1⟩ := int_inv re kr
    refine q1.run σ G1 H1 _ g.ok (en.grow g) fun w G2 H2 r2 g2 re2 k2 => ?_
    obtain ⟨j, rfl, q2⟩ := int_inv re2 k2
    refine q2.run σ G2 H2 _ g2.ok ((en.grow g).grow g2) fun w3 G3 H3 r3 g3 re3 k3 => ?_
    obtain ⟨c, rfl, ec, a1, a2, q3⟩ := int_inv re3 k3
    subst ec
    exact ⟨i, j, -1, _, rfl, RgC.neg a1.1 a1.2 a2.1 a2.2, cont _ G3 H3 _ ((g.trans g2).trans g3) (wk_rngd i _) q3⟩)⟩
/-! over data -/
theorem er_inD (h : EvV X B a Γ fun d => EvV X B b Γ fun y => ∃ ds, y = .list ds ∧ SeqAt.shaped d = true ∧ SeqAt.shaped (.list ds) = true ∧ k (.d (.bool (ds.any fun z => PyData.eqv z d)))) : EvR X B (rInD X.K) a b Γ k :=
  ⟨fun σ G H Q o en cont => h.run σ G H _ o en fun v G1 G' H' x g1 e1 o1 d1 k1 => k1.run σ G' H' _ g1.ok (en.grow g1) fun w G2 G3 H2 y g2 e2 o2 d2 ⟨ds, ey, s1, s2, k2⟩ => by
    subst ey
    exact ⟨x, ds, Dp.ext (g2.keep o1) _ _ d1, Dp.ext o2.ex _ _ d2, s1, s2, cont _ G3 H2 _ (g1.trans g2) (Res.dat (.bl _)) k2⟩⟩
theorem er_notInD (h : EvV X B a Γ fun d => EvV X B b Γ fun y => ∃ ds, y = .list ds ∧ SeqAt.shaped d = true ∧ SeqAt.shaped (.list ds) = true ∧ k (.d (.bool (!ds.any fun z => PyData.eqv z d)))) : EvR X B (rNotInD X.K) a b Γ k :=
  ⟨fun σ G H Q o en cont => h.run σ G H _ o en fun v G1 G' H' x g1 e1 o1 d1 k1 => k1.run σ G' H' _ g1.ok (en.grow g1) fun w G2 G3 H2 y g2 e2 o2 d2 ⟨ds, ey, s1, s2, k2⟩ => by
    subst ey
    exact ⟨x, ds, Dp.ext (g2.keep o1) _ _ d1, Dp.ext o2.ex _ _ d2, s1, s2, cont _ G3 H2 _ (g1.trans g2) (Res.dat (.bl _)) k2⟩⟩
theorem et_inD {k0 : Nat} {f : Bool → Prop} (hr : Room k0 X.A) (h : EvV X B a Γ fun d => EvV X B b Γ fun y => ∃ ds, y = .list ds ∧ SeqAt.shaped d = true ∧ SeqAt.shaped (.list ds) = true ∧ f (ds.any fun z => PyData.eqv z d)) (hm : behindInMarks .In b = false := by with_unfolding_all rfl) : EvT X B (.Compare a [.In] [b] pos) Γ f :=
  et_cop (op_inD (hu65 hr)) hm (er_inD h)
theorem et_notInD {k0 : Nat} {f : Bool → Prop} (hr : Room k0 X.A) (h : EvV X B a Γ fun d => EvV X B b Γ fun y => ∃ ds, y = .list ds ∧ SeqAt.shaped d = true ∧ SeqAt.shaped (.list ds) = true ∧ f (!ds.any fun z => PyData.eqv z d)) (hm : behindInMarks .NotIn b = false := by with_unfolding_all rfl) : EvT X B (.Compare a [.NotIn] [b] pos) Γ f :=
  et_cop (op_notInD (hu65 hr)) hm (er_notInD h)
/-! ints and None -/
def vO : Option Int → V
  | some i => .int i
  | none => .non
theorem DpAll.os_inv {K : PySem.W.Frag} {G : Hp} : ∀ {os : List (Option Int)} {vs : List V}, DpAll K G vs (os.map encO) → vs = os.map vO
  | [], vs, h => by cases h; rfl
  | o :: os, vs, h => by
    cases h with
    | @cons v _ ws _ h1 h2 =>
      rw [DpAll.os_inv h2, List.map_cons]
      cases o with
      | none => cases h1; rfl
      | some i => cases h1; rfl
theorem flat_os (os : List (Option Int)) : (os.map vO).all flatV = true := by
  rw [List.all_eq_true]
  intro x hx
  obtain ⟨o, _, rfl⟩ := List.mem_map.mp hx
  cases o <;> rfl
theorem eqV_o (o : Option Int) (n : Int) : eqV (vO o) (.int n) = decide (o = some n) := by
  cases o with
  | none => exact (decide_eq_false (by simp)).symm
  | some i =>
    show (i == n) = _
    by_cases h : i = n
    · rw [h]; simp
    · rw [decide_eq_false (fun e => h (Option.some.inj e))]; exact beq_false_of_ne h
theorem inV_os (n : Int) (os : List (Option Int)) : inV (.int n) (os.map vO) = decide (some n ∈ os) := by
  unfold inV
  induction os with
  | nil => simp
  | cons o r ih =>
    rw [List.map_cons, List.any_cons, ih, eqV_o]
    by_cases h : o = some n
    · have h2 : some n ∈ o :: r := by rw [h]; exact List.mem_cons_self
      rw [decide_eq_true h, decide_eq_true h2]; rfl
    · rw [decide_eq_false h, Bool.false_or]
      congr 1
      rw [List.mem_cons]
      exact propext ⟨.inr, fun q => q.resolve_left fun e => h e.symm⟩
theorem er_inO {neg : Bool} (h : EvE X B a Γ (Sl.int fun i => EvV X B b Γ fun y => ∃ os : List (Option Int), y = .list (os.map encO) ∧ k (.d (.bool (if neg then !decide (some i ∈ os) else decide (some i ∈ os)))))) : EvR X B (rIn X.K neg) a b Γ k :=
  ⟨fun σ G H Q o en cont => h.run σ G H _ o en fun v G1 H1 r1 g1 re1 k1 => by
    obtain ⟨i, ei, q1⟩ := int_inv re1 k1
    subst ei
    refine q1.run σ G1 H1 _ g1.ok (en.grow g1) fun w G2 G3 H2 y g2 e2 o2 d2 k2 => ?_
    obtain ⟨os, rfl, q2⟩ := k2
    obtain ⟨p, xs, e, hs, ha⟩ := Dp.lst_inv d2
    subst e
    rw [DpAll.os_inv ha] at hs
    refine ⟨p, _, rfl, .inl (SqL.ext o2.ex hs), rfl, flat_os os, ?_⟩
    rw [inV_os]
    exact cont _ G3 H2 _ (g1.trans g2) (Res.dat (.bl _)) q2⟩
theorem et_inO {f : Bool → Prop} (h : EvE X B a Γ (Sl.int fun i => EvV X B b Γ fun y => ∃ os : List (Option Int), y = .list (os.map encO) ∧ f (decide (some i ∈ os)))) (hm : behindInMarks .In b = false := by with_unfolding_all rfl) : EvT X B (.Compare a [.In] [b] pos) Γ f :=
  et_cop op_in_seq hm (er_inO (neg := false) h)
/-! l.count(n) -/
def rCountO (K : PySem.W.Frag) : V → List V → Hp → VK → Prop := fun x xs H Q => ∃ (a : Addr) (ys : List V) (y : V), x = V.ref a ∧ xs = [y] ∧ L2.SqL K H a ys ∧ flatV y = true ∧ ys.all flatV = true ∧ Q (.int (ys.countP (fun z => eqV z y) : Nat)) H
theorem countP_eqU {x : V} : ∀ {xs : List V} {us : List Value}, Vals xs us → xs.all flatV = true → us.countP (eqU x) = xs.countP fun y => eqV y x
  | _, _, .nil, _ => rfl
  | y :: xs, u :: us, .cons r t, f => by
    rw [List.all_cons, Bool.and_eq_true] at f
    rw [List.countP_cons, List.countP_cons, eqU_of r f.1, countP_eqU t f.2]
theorem mt_countO : MtR X "list.count" (rCountO X.K) := by
  intro pins s σ H x xs v us Q I rx rxs h
  obtain ⟨a, ys, y, rfl, rfl, hs, fy, fys, q⟩ := h
  cases rx
  cases rxs with
  | cons ry rt =>
    rename_i uy ut
    cases rt
    obtain ⟨its, rv, ⟨⟨cls, dd, data, sl⟩, n, ho, hc, hdn, hd⟩, hlen⟩ := I.list hs
    simp only at hc hd
    subst hc hd
    refine call_meets PySem.F.slot_list_count ⟨_, ho, rfl⟩ PySem.F.entry_list_count (PySem.F.args_list_count_2 _ _) (SeqAt.list_countAt a its.toArray n dd sl uy (eqU y)) ⟨ho, fun u' hu' => mem_eqAt ry fy rv fys u' (by simpa using hu'), ?_⟩
    have e1 : its.toArray.toList.countP (eqU y) = ys.countP fun z => eqV z y := by
      rw [← countP_eqU rv fys]
    rw [e1]
    exact ⟨.int ((ys.countP fun z => eqV z y : Nat) : Int), H, I.tok _, ⟨_, rfl⟩, q⟩
theorem countP_os (n : Int) (os : List (Option Int)) : (os.map vO).countP (fun z => eqV z (.int n)) = os.count (some n) := by
  induction os with
  | nil => rfl
  | cons o r ih =>
    rw [List.map_cons, List.countP_cons, List.count_cons, ih, eqV_o]
    congr 1
    by_cases h : o = some n
    · rw [h]; simp
    · rw [decide_eq_false h, beq_false_of_ne h]
/-- o.count(n), o a list of ints and None -/
theorem ee_countL {o : Expr} {nm : Str} {apos : Pos} (h : EvL X B o Γ fun ds => ∃ os : List (Option Int), ds = os.map encO ∧ EvE X B e Γ (Sl.int fun n => k (.d (.int (os.count (some n) : Nat))))) (hnm : nm = "count" := by rfl)
    (hbase : attributeBase o nm X.env (eval o X.env) = eval o X.env := by rfl)
    (hfew : ((backTo pos (starEach [e] X.env)).all (fun x => !x.1) && (backToKw pos (keywordEach [] X.env)).all (fun x => x.1.isSome)
      && decide (([e] : List Expr).length + ([] : List Keyword).length + (if ([] : List Keyword).isEmpty then 0 else 1) < 30)) = true := by rfl)
    (hline : (apos.endLine == pos.line) = true := by rfl) (hs : starEach [e] X.env = (false, eval e X.env) :: starEach [] X.env := by rfl) (hplain : (backTo pos (starEach [] X.env)).any (·.1) = false := by rfl) :
    EvE X B (.Call (.Attribute o nm apos) [e] [] pos) Γ k := by
  subst hnm
  exact ⟨fun σ G H Q ok en cont => tE_of (pe_bm PySem.F.plainAttrs_list PySem.F.slot_list_count PySem.F.type_list_count mt_countO pe_self (pa_cons pe_self pa_nil hs) hbase hfew hline hs hplain) (h.run σ G H _ ok en fun p xs G1 G' H' ds g e1 o1 sq da ⟨os, eds, kr⟩ => by
    subst eds
    refine ⟨.inl ⟨rfl, xs, sqL_ext o1.ex sq⟩, ?_⟩
    refine kr.run σ G' H' _ g.ok (en.grow g) fun w G2 H2 r g2 re k2 => ?_
    obtain ⟨n, rfl, q⟩ := int_inv re k2
    have hx := DpAll.os_inv da
    refine ⟨p, xs, .int n, rfl, rfl, sqL_ext (g2.keep o1) sq, rfl, by rw [hx]; exact flat_os os, ?_⟩
    rw [hx, countP_os]
    exact cont _ G2 H2 _ (g.trans g2) (Res.dat (.int _)) q)⟩
end
end Ab
/-! x += e, x -= e; l.index(n) -/
namespace Ab
open PySem PySem.Spec L2
section
variable {X : Cx} {B : Bg} {Γ : List Sl} {k : Sl → Prop} {a b e e1 e2 e3 : Expr} {pos p1 p2 p3 : Pos} {D : Dn}
theorem rs_augI {op : Operator} {g : Int → Int → Int} (ho : PIp X op (ipI g)) (i : Nat) {x : Str} {n : Int} (hN : X.N.Nodup) (hg : Γ[i]? = some (.d (.int n))) (h : EvE X B e Γ (Sl.int fun m => D.nx (Γ.set i (.d (.int (g n m)))))) (hi : X.N[i]? = some x := by rfl) (hx : Loc X.env.scope x := by first | exact Or.inl rfl | exact Or.inr rfl)
    (hf : X.fn x = true ∨ X.env.scope.names.lookup x = some .local := by first | exact .inl rfl | exact .inr rfl) : RunS X B (.AugAssign (.Name x p1) op e pos) Γ D :=
  ⟨fun G0 H0 σ G H DH s d => tS_of (ps_aug hN hi hx pe_self ho hf) (by
    obtain ⟨v', e1, dv⟩ := s.en.ok i _ hg (by simp)
    have dv : Dp X.K G v' (.int n) := dv
    cases dv
    refine ⟨_, e1, h.run σ G H _ s.gr.ok s.en fun w G1 H1 r g1 re kr => ?_⟩
    obtain ⟨m, rfl, q⟩ := int_inv re kr
    exact ⟨n, m, rfl, rfl, d.nx _ _ G1 H1 (s.asg g1 (Res.dat (.int _)) i) q⟩)⟩
theorem rs_addI (i : Nat) {x : Str} {n : Int} (hN : X.N.Nodup) (hg : Γ[i]? = some (.d (.int n))) (h : EvE X B e Γ (Sl.int fun m => D.nx (Γ.set i (.d (.int (n + m)))))) (hi : X.N[i]? = some x := by rfl) (hx : Loc X.env.scope x := by first | exact Or.inl rfl | exact Or.inr rfl)
    (hf : X.fn x = true ∨ X.env.scope.names.lookup x = some .local := by first | exact .inl rfl | exact .inr rfl) : RunS X B (.AugAssign (.Name x p1) .Add e pos) Γ D := rs_augI ip_add i hN hg h hi hx hf
theorem rs_subI (i : Nat) {x : Str} {n : Int} (hN : X.N.Nodup) (hg : Γ[i]? = some (.d (.int n))) (h : EvE X B e Γ (Sl.int fun m => D.nx (Γ.set i (.d (.int (n - m)))))) (hi : X.N[i]? = some x := by rfl) (hx : Loc X.env.scope x := by first | exact Or.inl rfl | exact Or.inr rfl)
    (hf : X.fn x = true ∨ X.env.scope.names.lookup x = some .local := by first | exact .inl rfl | exact .inr rfl) : RunS X B (.AugAssign (.Name x p1) .Sub e pos) Γ D := rs_augI ip_sub i hN hg h hi hx hf
theorem flat_is (ns : List Int) : (ns.map V.int).all flatV = true := flat_ints ns
/-- o.index(n), o a list of ints, n in it -/
theorem ee_indexI {o : Expr} {nm : Str} {apos : Pos} (h : EvL X B o Γ fun ds => ∃ ns : List Int, ds = ns.map .int ∧ EvE X B e Γ (Sl.int fun n => ∃ j : Nat, ns[j]? = some n ∧ (∀ m, m < j → ns[m]? ≠ some n) ∧ k (.d (.int (j : Int))))) (hnm : nm = "index" := by rfl)
    (hbase : attributeBase o nm X.env (eval o X.env) = eval o X.env := by rfl)
    (hfew : ((backTo pos (starEach [e] X.env)).all (fun x => !x.1) && (backToKw pos (keywordEach [] X.env)).all (fun x => x.1.isSome)
      && decide (([e] : List Expr).length + ([] : List Keyword).length + (if ([] : List Keyword).isEmpty then 0 else 1) < 30)) = true := by rfl)
    (hline : (apos.endLine == pos.line) = true := by rfl) (hs : starEach [e] X.env = (false, eval e X.env) :: starEach [] X.env := by rfl) (hplain : (backTo pos (starEach [] X.env)).any (·.1) = false := by rfl) :
    EvE X B (.Call (.Attribute o nm apos) [e] [] pos) Γ k := by
  subst hnm
  exact ⟨fun σ G H Q ok en cont => tE_of (pe_bm PySem.F.plainAttrs_list PySem.F.slot_list_index PySem.F.type_list_index mt_index pe_self (pa_cons pe_self pa_nil hs) hbase hfew hline hs hplain) (h.run σ G H _ ok en fun p xs G1 G' H' ds g e1 o1 sq da ⟨ns, eds, kr⟩ => by
    subst eds
    refine ⟨.inl ⟨rfl, xs, sqL_ext o1.ex sq⟩, ?_⟩
    refine kr.run σ G' H' _ g.ok (en.grow g) fun w G2 H2 r g2 re k2 => ?_
    obtain ⟨n, rfl, j, h1, h2, q⟩ := int_inv re k2
    have hx := DpAll.ints_inv da
    subst hx
    refine ⟨p, _, .int n, j, .int n, rfl, rfl, sqL_ext (g2.keep o1) sq, rfl, flat_ints ns, by rw [List.getElem?_map, h1]; rfl, beq_self_eq_true n, fun m z hm hz => ?_, cont _ G2 H2 _ (g.trans g2) (Res.dat (.int _)) q⟩
    rw [List.getElem?_map] at hz
    cases hy : ns[m]? with
    | none => rw [hy] at hz; cases hz
    | some y =>
      rw [hy] at hz
      cases hz
      have : y ≠ n := fun e => h2 m hm (by rw [hy, e])
      exact beq_false_of_ne this)⟩
end
end Ab
/-! sorted(x.items()) -/
namespace Ab
open PySem PySem.Spec L2
def rSortIA : List V → Hp → VK → Prop := fun vs H Q => ∃ (p a : Addr) (kms : List (Int × Int)), vs = [.ref p] ∧ H p = some (DX.itemsO p a) ∧ H a = some (.dK (kms.map fun x => ((Sum.inl x.1 : Key), V.int x.2))) ∧ kms.length ≤ 1000000 ∧
  ∀ (H' : Hp) (l : Addr) (as : List Addr) (zs : List (Addr × Int × Int)), (∀ b o, H b = some o → H' b = some o) → (∀ a ∈ as, H a = none) → H l = none → l ∉ as → zs.map (·.2) = kms.mergeSort (PySem.W.dataLe false encI) →
    H' l = some (.lst (zs.map fun z => V.ref z.1)) → (∀ z ∈ zs, z.1 ∈ as ∧ H' z.1 = some (.tup [.int z.2.1, .int z.2.2])) → Q (.ref l) H'
theorem cr_sortIA {X : Cx} {k0 : Nat} (hc : X.calm = true) (hr : Room k0 X.A) : CallR X (.builtin "sorted") rSortIA := by
  intro pins s σ H xs us Q I r h
  obtain ⟨p, a, kms, rfl, hp, ha, hz1, q⟩ := h
  obtain rfl := Vals.ref1 r
  have hline : (1000000 : Nat) ≤ sizeLine := by decide
  have view : s.heap.IsItemsView p a := (show ObjOk X.prog X.w H s.heap p (DX.itemsO p a) from I.hok p _ hp).1
  obtain ⟨z, hd, vs, rel, o, es, ep, ho, hx, hdat, hko, hpr, hn⟩ := dk_of I.hok ha
  have l1 : kms.length = vs.length := by rw [← Paired.length rel, List.length_map]
  have l2 : es.size = vs.length := by rw [← hpr.length]; rfl
  have hh : X.A.handled = none := I.ok.hd hc
  show wpAny (model X.prog X.w) X.A (call (.builtin "sorted") [.ref p]) _ _ _
  refine DT.sortedI (es := es) (ep := ep) hh view ⟨o, ho, hx, hdat⟩ (by omega) fun h' tk as hk hlt hl hG => ?_
  have lak : as.length = kms.length := by omega
  have nd : as.Nodup := List.Pairwise.imp (fun h => Nat.ne_of_lt h) hG.rise
  have pr : ∀ (j : Nat) (b : Addr), as[j]? = some b → ∃ (x : Int × Int) (t1 t2 : Tok), kms[j]? = some x ∧ h'.get? b = some { cls := .type "tuple", data := .seq #[Value.int x.1 t1, Value.int x.2 t2] } := by
    intro j b hj
    obtain ⟨en, he, hg⟩ := hG.pairs j b hj
    have hjl : j < kms.length := by rw [← lak]; exact (List.getElem?_eq_some_iff.mp hj).1
    have hkj : kms[j]? = some kms[j] := List.getElem?_eq_getElem hjl
    have hkj2 : (kms.map fun x => ((Sum.inl x.1 : Key), V.int x.2))[j]? = some (Sum.inl kms[j].1, V.int kms[j].2) := by rw [List.getElem?_map, hkj]; rfl
    obtain ⟨u, hu, ru⟩ := kv_get rel hkj2
    obtain ⟨e2, he2, hk2, hv2⟩ := pairs_get hpr hu
    have : e2 = en := Option.some.inj (he2.symm.trans (by rw [← he]; simp))
    subst this
    obtain ⟨t2, rfl⟩ := (show ∃ t, u = Value.int kms[j].2 t from ru)
    rcases keyIs_shape (show keyIs (Sum.inl kms[j].1) e2.key = true from hk2) with ⟨i, t, h1, h2⟩ | ⟨x, t, h1, h2⟩
    · have h1 := Sum.inl.inj h1
      subst h1
      exact ⟨kms[j], t, t2, hkj, by rw [hg, h2, hv2]⟩
    · cases h1
  have hob : (h'.push { cls := .type "list", data := .seq (as.map Value.ref).toArray }).get? h'.objs.size = some (PyProof.Rows.seqObj "list" (as.map Value.ref).toArray 0) := Heap.get?_push_size _ rfl
  have kb : ∀ b o, s.heap.get? b = some o → (h'.push { cls := .type "list", data := .seq (as.map Value.ref).toArray }).get? b = some o := fun b o e => Heap.get?_push_of_some _ (hk b o e)
  have ne0 : ∀ b o, h'.get? b = some o → b ≠ h'.objs.size := fun b o e => Nat.ne_of_lt (Heap.lt_size e)
  generalize hh2 : h'.push { cls := .type "list", data := .seq (as.map Value.ref).toArray } = h2 at hob kb ⊢
  have ka : ∀ b o, h'.get? b = some o → h2.get? b = some o := fun b o e => by rw [← hh2]; exact Heap.get?_push_of_some _ e
  have mk : ∀ (as : List Addr) (kms : List (Int × Int)), (∀ (j : Nat) (b : Addr), as[j]? = some b → ∃ (x : Int × Int) (t1 t2 : Tok), kms[j]? = some x ∧ h2.get? b = some { cls := .type "tuple", data := .seq #[Value.int x.1 t1, Value.int x.2 t2] }) → as.length = kms.length →
      PySem.W.EachIs (fun (v : Value) (b : Addr × Int × Int) => v = Value.ref b.1) (as.map Value.ref) (as.zip kms) ∧ PySem.W.EachIs (fun (v : Value) (b : Addr × Int × Int) => ∃ rs, Reads h2 v (encI b.2) rs ∧ h'.objs.size ∉ rs) (as.map Value.ref) (as.zip kms) := by
    intro as
    induction as with
    | nil => intro kms _ _; exact ⟨.nil, .nil⟩
    | cons a as ih =>
      intro kms h hl
      cases kms with
      | nil => cases hl
      | cons x kms =>
        obtain ⟨x', t1, t2, hx, hg⟩ := h 0 a rfl
        cases hx
        have ih := ih kms (fun j b hj => h (j + 1) b hj) (Nat.succ.inj hl)
        exact ⟨.cons rfl ih.1, .cons ⟨_, .tuple hg rfl rfl (.cons (.int _ _) (.cons (.int _ _) .nil)), by simp⟩ ih.2⟩
  have each := mk as kms (fun j b hj => let ⟨x, t1, t2, hx, hg⟩ := pr j b hj; ⟨x, t1, t2, hx, ka _ _ hg⟩) lak
  have hzl : (as.zip kms).length = kms.length := by rw [List.length_zip, lak, Nat.min_self]
  refine PySem.W.list_sort_data (s := { s with heap := h2, toks := tk }) (enc := fun b : Addr × Int × Int => encI b.2) hob each.1 each.2 (PySem.W.AllAlike.of fun b b' => by simp [encI, PySem.W.alike, PySem.W.alikeAll]) (PySem.W.Sortable.tuples fun b => ⟨_, _, rfl⟩) (by rw [hzl]; omega) (fun b _ => ?_) fun out hol hout => ?_
  · have := hr.units
    have hdep : (encI b.2).depth = 1 := by simp [encI, PyData.depth, PyData.depthAll]
    rw [hdep]
    show X.A.units + 1 + 1 + 1 < cLine
    omega
  · generalize hzs : (as.zip kms).mergeSort (PySem.W.dataLe false fun b : Addr × Int × Int => encI b.2) = zs at hout
    have pz : zs.Perm (as.zip kms) := by rw [← hzs]; exact List.mergeSort_perm _ _
    have hsort : zs.map (·.2) = kms.mergeSort (PySem.W.dataLe false encI) := by
      rw [← hzs]
      refine (PySem.W.sort_maps (s := PySem.W.dataLe false encI) (f := fun b : Addr × Int × Int => b.2) (fun _ _ _ _ => rfl)).trans ?_
      congr 1
      exact List.map_snd_zip (by rw [lak]; exact Nat.le_refl _)
    have hout2 : out = zs.map fun z => Value.ref z.1 := by
      clear hzs pz hsort hol
      induction hout with
      | nil => rfl
      | cons a _ ih => rw [a, ih]; rfl
    show EP X pins σ Q (.ref h'.objs.size) { s with heap := PyProof.Rows.sortedHeap h2 h'.objs.size (as.map Value.ref) out.toArray, toks := tk }
    have kF : ∀ b o, b ≠ h'.objs.size → h2.get? b = some o → (PyProof.Rows.sortedHeap h2 h'.objs.size (as.map Value.ref) out.toArray).get? b = some o := fun b o hb e => (PyProof.Rows.sortedHeap_old hb (Heap.lt_size e)).trans e
    have kS : ∀ b o, s.heap.get? b = some o → (PyProof.Rows.sortedHeap h2 h'.objs.size (as.map Value.ref) out.toArray).get? b = some o := fun b o e => kF b o (ne0 _ _ (hk b o e)) (kb b o e)
    obtain ⟨eF, heF⟩ := PyProof.Rows.sortedHeap_at (vs := as.map Value.ref) (out := out.toArray) hob
    have I1 : Inv X pins σ H { s with heap := PyProof.Rows.sortedHeap h2 h'.objs.size (as.map Value.ref) out.toArray, toks := tk } := I.kept (t' := tk) kS
    have hn0 : H h'.objs.size = none := I.hok.fresh (Nat.le_of_lt hlt)
    have hlen : (zs.map fun z => V.ref z.1).length ≤ sizeLine := by
      rw [List.length_map, pz.length_eq, hzl]
      omega
    have rv : Vals (zs.map fun z => V.ref z.1) out := by
      rw [hout2]
      exact vals_maps (fun z : Addr × Int × Int => V.ref z.1) (fun z => Value.ref z.1) zs fun _ _ => rfl
    have I2 : Inv X pins σ (upd H h'.objs.size (.lst (zs.map fun z => V.ref z.1))) { s with heap := PyProof.Rows.sortedHeap h2 h'.objs.size (as.map Value.ref) out.toArray, toks := tk } :=
      I1.take (h' := PyProof.Rows.sortedHeap h2 h'.objs.size (as.map Value.ref) out.toArray) (t' := tk) (fun b ob _ e => e) (I.fpOk (Nat.le_of_lt hlt) hn0) ⟨hlen, out, eF, rv, heF⟩
    obtain ⟨H2, I3, g, qt⟩ := DX.takeT (P := fun b vs => ∃ (j : Nat) (x : Int × Int), as[j]? = some b ∧ kms[j]? = some x ∧ vs = [.int x.1, .int x.2]) I as _ I2 nd fun b hb => by
      obtain ⟨j, hj⟩ := List.mem_iff_getElem?.mp hb
      obtain ⟨x, t1, t2, hx, hg⟩ := pr j b hj
      have hbl : s.heap.objs.size ≤ b := Nat.le_of_lt (hG.above b hb)
      refine ⟨hbl, ?_, [.int x.1, .int x.2], ⟨j, x, hj, hx, rfl⟩, fun H3 => ⟨(by show 2 ≤ sizeLine; omega), [Value.int x.1 t1, Value.int x.2 t2], .cons ⟨_, rfl⟩ (.cons ⟨_, rfl⟩ .nil), ⟨_, kF _ _ (ne0 _ _ hg) (ka _ _ hg), rfl, 0, rfl⟩⟩⟩
      rw [upd_ne (ne0 _ _ hg)]
      exact I.hok.fresh hbl
    have gr : ∀ b o, H b = some o → H2 b = some o := fun b o e => g b o (by rw [upd_ne (ne_of_none e hn0)]; exact e)
    refine ⟨.ref h'.objs.size, H2, I3, rfl, q H2 h'.objs.size as zs gr (fun b hb => I.hok.fresh (Nat.le_of_lt (hG.above b hb))) hn0 (fun hin => ?_) hsort (g _ _ upd_same) fun z' hz' => ?_⟩
    · obtain ⟨j, hj⟩ := List.mem_iff_getElem?.mp hin
      obtain ⟨x, t1, t2, hx, hg⟩ := pr j _ hj
      exact ne0 _ _ hg rfl
    · obtain ⟨i, hi⟩ := List.mem_iff_getElem?.mp (pz.mem_iff.mp hz')
      obtain ⟨i1, i2⟩ := List.getElem?_zip_eq_some.mp hi
      have hin := List.mem_of_getElem? i1
      obtain ⟨vs, ⟨j, x, j1, j2, ev⟩, hH⟩ := qt z'.1 hin
      have eij : i = j := (List.getElem?_inj (List.getElem?_eq_some_iff.mp i1).1 nd).mp (i1.trans j1.symm)
      subst eij
      have ee : x = z'.2 := Option.some.inj (j2.symm.trans i2)
      rw [ev, ee] at hH
      exact ⟨hin, hH⟩
section
variable {X : Cx} {B : Bg} {Γ : List Sl} {k : Sl → Prop} {e ke ve : Expr} {pos p1 p2 p3 : Pos}
/-- sorted(x.items()): x a dict whose keys and values are ints -/
theorem ee_sortItA {k0 : Nat} {x nm : Str} {apos cpos : Pos} (j : Nat) {kvs : List (Key × PyData)} (kms : List (Int × Int)) (hm : X.mg "sorted" = none) (hc : X.calm = true) (hr : Room k0 X.A) (hg : Γ[j]? = some (.od kvs)) (hk : kvs = kms.map fun z => (Sum.inl z.1, .int z.2)) (hz : kms.length ≤ 1000000)
    (q : k (.ol ((kms.mergeSort (PySem.W.dataLe false encI)).map encI))) (hnm : nm = "items" := by rfl)
    (hN : X.N[j]? = some x := by rfl) (hv : Vis X.env.scope x := by first | exact Or.inl rfl | exact Or.inr (Or.inl rfl) | exact Or.inr (Or.inr rfl)) (hd : (x == ("__debug__" : Str)) = false := by decide) (hcd : (x == ("__classdict__" : Str)) = false := by decide)
    (hgl : Gl X "sorted" := by rfl)
    (hbase : attributeBase (.Name x p2) nm X.env (eval (.Name x p2) X.env) = eval (.Name x p2) X.env := by rfl) (hline : (apos.endLine == cpos.line) = true := by rfl)
    (hpl : (backTo pos (starEach [] X.env)).any (·.1) = false := by rfl)
    (he2 : starEach [.Call (.Attribute (.Name x p2) nm apos) [] [] cpos] X.env = (false, eval (.Call (.Attribute (.Name x p2) nm apos) [] [] cpos) X.env) :: starEach [] X.env := by rfl) :
    EvE X B (.Call (.Name "sorted" p1) [.Call (.Attribute (.Name x p2) nm apos) [] [] cpos] [] pos) Γ k := by
  subst hnm
  exact ⟨fun σ G H Q ok en cont => tE_of (pe_callB (cr_sortIA hc hr) hgl hm boot_sorted (pa_cons (pe_itemsV (pe_var hN hv hd hcd) hbase hline) pa_nil he2) (by decide) (by decide) he2 hpl) (by
    obtain ⟨v', e1, a, ks, ev, nb, z, ha, da⟩ := en.ok j _ hg (by simp)
    subst ev
    have hks : ks = kms.map fun z => ((Sum.inl z.1 : Key), V.int z.2) := by
      rw [hk] at da
      clear hk hz q ha hg e1
      unfold DpK at da
      induction kms generalizing ks with
      | nil => cases da; rfl
      | cons y r ih =>
        cases da with
        | @cons x' _ xs' _ h1 h2 =>
          obtain ⟨x1, x2⟩ := x'
          obtain ⟨h3, h4⟩ := h1
          have h3 : x1 = Sum.inl y.1 := h3
          have h4 : Dp X.K G x2 (.int y.2) := h4
          subst h3
          cases h4
          rw [List.map_cons, ih _ h2]
    refine ⟨_, e1, a, ks, rfl, ha, fun p hp => ?_⟩
    have g1 := Grow.newOwn (G := G) ok hp (DX.itemsO p a)
    refine ⟨p, a, kms, rfl, upd_same, by rw [upd_ne (ne_of_none ha hp), ha, hks], hz, fun H' l as zs ex hn hl hna hs hl2 hzs => ?_⟩
    have g2 := Grow.more g1.ok ex as hn
    refine cont _ _ H' (.ol ((kms.mergeSort (PySem.W.dataLe false encI)).map encI)) (g1.trans g2) ⟨⟨l, _, rfl, g1.ok.notfree hl, ?_, hl2, ?_⟩, fun _ p e => by cases e; exact g1.free hl⟩ q
    · show (if l ∈ as then H' l else G l) = none
      rw [if_neg hna]
      exact g1.ok.ex.free hl
    · rw [← hs]
      clear hs hl2
      induction zs with
      | nil => exact .nil
      | cons z r ih =>
        obtain ⟨h1, h2⟩ := hzs z List.mem_cons_self
        refine .cons (.tup (SqT.of ?_) (.cons (.int _) (.cons (.int _) .nil))) (ih fun z hz => hzs z (List.mem_cons_of_mem _ hz))
        show (if z.1 ∈ as then H' z.1 else G z.1) = some _
        rw [if_pos h1]
        exact h2)⟩
theorem encI_leA : PySem.W.dataLe false encI = fun p q => decide (p.1 < q.1 ∨ (p.1 = q.1 ∧ p.2 ≤ q.2)) := by
  funext p q
  show (!PySem.W.dataLt (.tuple [.int q.1, .int q.2]) (.tuple [.int p.1, .int p.2])) = _
  rw [PySem.W.dataLt_ii]
  by_cases h : q.1 < p.1 ∨ (q.1 = p.1 ∧ q.2 < p.2)
  · have h' : ¬ (p.1 < q.1 ∨ (p.1 = q.1 ∧ p.2 ≤ q.2)) := by omega
    simp [h, h']
  · have h' : p.1 < q.1 ∨ (p.1 = q.1 ∧ p.2 ≤ q.2) := by omega
    simp [h, h']
theorem encI_sortedA (kms : List (Int × Int)) : (kms.mergeSort (PySem.W.dataLe false encI)).Pairwise fun p q => p.1 ≤ q.1 := by
  have h := List.pairwise_mergeSort (le := PySem.W.dataLe false encI) (fun a b c h1 h2 => by
    rw [encI_leA] at h1 h2 ⊢
    simp only [decide_eq_true_eq] at h1 h2 ⊢
    omega) (fun a b => by
    rw [encI_leA]
    simp only [Bool.or_eq_true, decide_eq_true_eq]
    omega) kms
  refine List.Pairwise.imp (fun {a b} h => ?_) h
  rw [encI_leA] at h
  simp only [decide_eq_true_eq] at h
  omega
end
/-! t[::-1] -/
section
open PyProof.Rows
variable {prog : Program} {w : World} {A : Around} {E : Value → Shared → Prop} {s : Shared}
theorem places_rev (n : Nat) : Builtin.Slice.slicePlaces ((n : Int) - 1) (-1) (-1) = n := by
  unfold Builtin.Slice.slicePlaces
  rw [if_neg (by decide)]
  by_cases h : (n : Int) - 1 > -1
  · rw [if_pos h]
    have e : ((n : Int) - 1 - -1 - 1) / (- -1) = (n : Int) - 1 := by
      rw [show (- -1 : Int) = 1 by decide, Int.ediv_one]
      omega
    rw [e]
    omega
  · rw [if_neg h]; omega
theorem sliceApplied_rev {sl : Addr} {vl vu vs : Value} {n : Nat} {Q : Int × Int × Nat → Shared → Prop} (hs : s.heap.IsSliceOf sl vl vu vs) (pl : IsPart vl none) (pu : IsPart vu none) (ps : IsPart vs (some (-1)))
    (h : Q ((n : Int) - 1, -1, n) s) : wpAny (model prog w) A (Builtin.Slice.sliceApplied (.ref sl) (pure (n : Int))) Q E s := by
  obtain ⟨os, hos, hcs, hds⟩ := id hs
  unfold Builtin.Slice.sliceApplied Builtin.Slice.sliceFields
  refine wpAny_bind (wpAny_bind (wpAny_field hos hds (x := vl) rfl (wpAny_bind (wpAny_field hos hds (x := vu) rfl (wpAny_bind (wpAny_field hos hds (x := vs) rfl (wpAny_pure ?_)))))))
  refine wpAny_bind (HT.slicePart_ ps ?_)
  show wpAny _ _ (if ((-1 : Int) == 0) = true then _ else _) _ _ s
  rw [if_neg (by decide)]
  refine wpAny_bind (HT.slicePart_ pl (wpAny_bind (HT.slicePart_ pu (wpAny_bind (wpAny_pure ?_)))))
  show wpAny _ _ (pure ((n : Int) - 1, (-1 : Int), Builtin.Slice.slicePlaces ((n : Int) - 1) (-1) (-1))) _ _ s
  rw [places_rev]
  exact wpAny_pure h
theorem filterMap_same {α β : Type} {f g : α → Option β} : ∀ {l : List α}, (∀ x ∈ l, f x = g x) → l.filterMap f = l.filterMap g
  | [], _ => rfl
  | a :: r, h => by
    rw [List.filterMap_cons, List.filterMap_cons, h a List.mem_cons_self, filterMap_same fun x hx => h x (List.mem_cons_of_mem _ hx)]
theorem pick_rev (xs : Array Value) : ((List.range xs.size).filterMap fun (k : Nat) => xs[((xs.size : Int) - 1 + (k : Int) * -1).toNat]?).toArray = xs.toList.reverse.toArray := by
  have e : (List.range xs.size).filterMap (fun (k : Nat) => xs[((xs.size : Int) - 1 + (k : Int) * -1).toNat]?) = ((List.range xs.size).map fun k => xs.size - 1 - k).filterMap (xs[·]?) := by
    rw [List.filterMap_map]
    refine filterMap_same fun k hk => ?_
    have := List.mem_range.mp hk
    have e2 : ((xs.size : Int) - 1 + (k : Int) * -1).toNat = xs.size - 1 - k := by omega
    show xs[((xs.size : Int) - 1 + (k : Int) * -1).toNat]? = xs[xs.size - 1 - k]?
    rw [e2]
  rw [e, PySem.W.krv_range, List.filterMap_reverse, PySem.W.krv_all]
theorem getItem_tuple_rev {t sl : Addr} {items : Array Value} {vl vu vs : Value} {Q : Value → Shared → Prop} (ht : IsTup s.heap t items) (hs : s.heap.IsSliceOf sl vl vu vs) (pl : IsPart vl none) (pu : IsPart vu none) (ps : IsPart vs (some (-1)))
    (h : Q (.ref s.heap.objs.size) { s with heap := s.heap.push { cls := .type "tuple", data := .seq items.toList.reverse.toArray } })
    (hsz : items.size ≤ sizeLine) : wpAny (model prog w) A (getItem (.ref t) (.ref sl)) Q E s := by
  have htake : sizeOk (.seq items.toList.reverse.toArray) := by
    show items.toList.reverse.toArray.size ≤ sizeLine
    rw [List.size_toArray, List.length_reverse, Array.length_toList]
    exact hsz
  obtain ⟨os, hos, hcs, hds⟩ := id hs
  have hTs : s.TypeIs (.ref sl) "slice" := ⟨os, hos, hcs⟩
  unfold getItem
  try with_reducible refine wpAny_holding ?_
  first | refine wpAny_bind (wpAny_pure ?_) | skip
  refine wpAny_bind (wpAny_sequenceKey ht.typeIs (by decide) ?_)
  refine wpAny_bind (wpAny_callSpecial?_slot (name := Str.ofString "__getitem__") ht.typeIs PyProof.Rows.slot_tuple_getitem
    (wpAny_call_entry PyProof.Rows.slot_tuple_getitem ht.typeIs entry_tuple_getitem ?_ (args_tuple_getitem _ _)))
  show wpAny _ _ (Builtin.Tuple.tupleItemsOf (.ref t) >>= _) _ _ s
  refine wpAny_bind (tupleItemsOf_ ht ?_)
  refine wpAny_bind (wpAny_typeOf hTs ?_)
  rw [if_pos (by decide)]
  refine wpAny_bind (sliceApplied_rev hs pl pu ps ?_)
  have hno : ¬ (((items.size : Int) - 1 == 0 && (-1 : Int) == 1 && items.size == items.size) = true) := by
    intro q
    rw [Bool.and_eq_true, Bool.and_eq_true] at q
    have q1 : (-1 : Int) = 1 := eq_of_beq q.1.2
    omega
  show wpAny _ _ (if ((items.size : Int) - 1 == 0 && (-1 : Int) == 1 && items.size == items.size) = true then _ else _) _ _ s
  rw [if_neg hno, pick_rev]
  first
    | exact wpAny_bind (m := Builtin.Tuple.tupleExact _) (wpAny_newObj_type (wpAny_pure ⟨_, rfl, wpAny_pure h⟩) htake)
    | exact wpAny_bind (m := Builtin.Tuple.tupleExact _) (wpAny_newObj_type (wpAny_bind (wpAny_pure (wpAny_pure ⟨_, rfl, wpAny_pure h⟩))) htake)
    | exact wpAny_bind (wpAny_bind (m := Builtin.Tuple.tupleExact _) (wpAny_newObj_type (wpAny_pure (wpAny_pure ⟨_, rfl, wpAny_pure h⟩)) htake))
    | exact wpAny_bind (wpAny_bind (m := Builtin.Tuple.tupleExact _) (wpAny_newObj_type (wpAny_pure ⟨_, rfl, wpAny_pure h⟩) htake))
end
section
open PyProof.Rows
variable {X : Cx} {B : Bg} {Γ : List Sl} {k : Sl → Prop}
def tRevT (K : PySem.W.Frag) (te : TE) : TE := fun σ H Q => te σ H fun x H1 => ∃ a xs, x = .ref a ∧ SqT K H1 a xs ∧ ∀ p, H1 p = none → Q (.ref p) (upd H1 p (.tup xs.reverse))
theorem pe_revT {e : Expr} {te : TE} {k : Nat} {p1 p2 p3 pos : Pos} (he : PE X e te) : PE X (.Subscript e (.Slice none none (some (.UnaryOp .USub (.Constant (.int 1) k p1) p2)) p3) pos) (tRevT X.K te) := by
  refine ⟨fun pins s σ H Q I h => ?_⟩
  refine PyProof.Rows.Subscript_ (thn (he.run pins s σ H _ I h) fun v s1 ⟨x, H1, I1, r1, q1⟩ => ?_)
  obtain ⟨a, xs, ex, hx, q⟩ := q1
  subst ex
  cases r1
  have hst : PO X (some (.UnaryOp .USub (.Constant (.int 1) k p1) p2)) (tPart (tUn (rU fun i => .int (-i)) (tC (.int 1)))) := po_some (pe_un un_neg pe_int)
  refine wpAny_Slice (thn (po_none.run pins s1 σ H1 (fun o H2 => o = none ∧ H2 = H1) I1 ⟨rfl, rfl⟩) fun vl s2 ⟨l, H2, I2, pl, el, e2⟩ => ?_)
  subst el e2
  refine thn (po_none.run pins s2 σ H2 (fun o H3 => o = none ∧ H3 = H2) I2 ⟨rfl, rfl⟩) fun vu s3 ⟨u, H3, I3, pu, eu, e3⟩ => ?_
  subst eu e3
  refine thn (hst.run pins s3 σ H3 (fun o H4 => o = some (-1) ∧ H4 = H3) I3 ⟨1, rfl, -1, rfl, rfl, rfl⟩) fun vs s4 ⟨o, H4, I4, ps, eo, e4⟩ => ?_
  subst eo e4
  have I5 : Inv X pins σ H4 { s4 with heap := s4.heap.push { cls := .type "slice", data := .fields #[vl, vu, vs] } } := I4.kept (t' := s4.toks) fun b ob q => Heap.get?_push_of_some _ q
  obtain ⟨its, r, ht, hz⟩ := I5.tuple hx.up
  have hlen := r.length
  show wpAny (model X.prog X.w) X.A (subscriptTail e (.Slice none none (some (.UnaryOp .USub (.Constant (.int 1) k p1) p2)) p3) (.ref a) (.ref s4.heap.objs.size)) (EP X pins σ Q) X.xe { s4 with heap := s4.heap.push { cls := .type "slice", data := .fields #[vl, vu, vs] } }
  refine PyProof.Rows.tail_any (ops := [.ref a, .ref s4.heap.objs.size]) ht.typeIs (PyProof.Rows.slot_tuple_getitem.lookup) ?_ (by with_unfolding_all rfl)
  refine getItem_tuple_rev ht (Heap.IsSliceOf.new _ vl vu vs) pl pu ps ?_ (by rw [List.size_toArray]; omega)
  refine ⟨.ref _, _, I5.laid (t' := s4.toks) (o := .tup xs.reverse) (fun b ob q => Heap.get?_push_of_some _ q) (Nat.le_refl _) ?_, rfl, q _ (I5.hok.fresh (Nat.le_refl _))⟩
  exact ⟨by rw [List.length_reverse]; exact hz, _, r.reverse, IsTup.new _ _⟩
theorem ee_revT {e : Expr} {pos : Pos} {kk : Nat} {q1 q2 q3 : Pos} (h : EvE X B e Γ (Sl.tup fun ds => k (.d (.tuple ds.reverse)))) : EvE X B (.Subscript e (.Slice none none (some (.UnaryOp .USub (.Constant (.int 1) kk q1) q2)) q3) pos) Γ k :=
  ⟨fun σ G H Q ok en cont => tE_of (pe_revT pe_self) (h.run σ G H _ ok en fun v G1 H1 r g re kr => by
    obtain ⟨p, xs, ds, rfl, sq, da, q1⟩ := tup_inv re kr
    refine ⟨p, xs, rfl, SqT.ext g.ok.ex sq, fun q hq => ?_⟩
    have gn := Grow.new g.ok hq (.tup xs.reverse)
    exact cont _ _ _ _ (g.trans gn) (Res.dat (.tup (SqT.of upd_same) (DpAll.ext gn.g _ _ (DpAll.reverse da)))) q1)⟩
end
end Ab
/-! a def that answers with a list that it made (the caller owns it) -/
namespace Ab
open PySem PySem.Spec L2
open PyProof.Rows (envOfC)
mutual
def noL : PyData → Bool
  | .list _ => false
  | .dict _ => false
  | .tuple ds => noLs ds
  | _ => true
def noLs : List PyData → Bool
  | [] => true
  | d :: r => noL d && noLs r
end
theorem noLs_map {α : Type} {e : α → PyData} (h : ∀ x, noL (e x) = true) : ∀ xs : List α, noLs (xs.map e) = true
  | [] => by simp only [List.map_nil, noLs]
  | a :: r => by simp only [List.map_cons, noLs, h a, noLs_map h r, Bool.and_self]
section
variable {K : PySem.W.Frag} {G G' : Hp}
mutual
theorem Dp.move (h : ∀ a xs, G a = some (.tup xs) → G' a = some (.tup xs)) : ∀ (d : PyData) {v : V}, noL d = true → Dp K G v d → Dp K G' v d
  | .none, _, _, q => by cases q; exact .non
  | .bool b, _, _, q => by cases q; exact .bl b
  | .int i, _, _, q => by cases q; exact .int i
  | .str x, _, _, q => by cases q; exact .str x
  | .list ds, _, n, _ => by simp only [noL] at n; cases n
  | .tuple ds, _, n, q => by
    cases q with
    | tup hs ha => exact .tup (h _ _ hs) (DpAll.move h ds (by simpa only [noL] using n) ha)
  | .dict _, _, n, _ => by simp only [noL] at n; cases n
theorem DpAll.move (h : ∀ a xs, G a = some (.tup xs) → G' a = some (.tup xs)) : ∀ (ds : List PyData) {vs : List V}, noLs ds = true → DpAll K G vs ds → DpAll K G' vs ds
  | [], _, _, q => by cases q; exact .nil
  | d :: ds, _, n, q => by
    simp only [noLs, Bool.and_eq_true] at n
    cases q with
    | cons h1 h2 => exact .cons (Dp.move h d n.1 h1) (DpAll.move h ds n.2 h2)
end
end
def noLst (G : Hp) : Hp := fun a => match G a with
  | some (.lst _) => none
  | o => o
theorem noLst_some {G : Hp} {a : Addr} {o : HO} (h : noLst G a = some o) : G a = some o ∧ ∀ xs, o ≠ .lst xs := by
  unfold noLst at h
  split at h
  · cases h
  · rename_i hn
    exact ⟨h, fun xs e => hn xs (by rw [h, e])⟩
theorem noLst_of {G : Hp} {a : Addr} {o : HO} (h : G a = some o) (hn : ∀ xs, o ≠ .lst xs) : noLst G a = some o := by
  unfold noLst
  split
  · rename_i xs e
    rw [h] at e
    exact absurd (Option.some.inj e) (hn xs)
  · exact h
theorem noLst_none {G : Hp} {a : Addr} (h : G a = none) : noLst G a = none := by
  unfold noLst
  split
  · rfl
  · exact h
/-- what the caller sees of what is made -/
def joinG (G G1 : Hp) : Hp := fun a => match G a with
  | none => noLst G1 a
  | o => o
theorem joinG_old {G G1 : Hp} {a : Addr} {o : HO} (h : G a = some o) : joinG G G1 a = some o := by unfold joinG; rw [h]
theorem joinG_new {G G1 : Hp} {a : Addr} (h : G a = none) : joinG G G1 a = noLst G1 a := by unfold joinG; rw [h]
def NewR (k : Sl → Prop) (r : Sl) : Prop := (∃ ds, r = .d (.list ds) ∧ noLs ds = true ∧ k (.ol ds)) ∨ (r = .d .none ∧ k (.d .none))
theorem code_nl (c : Addr) (q : Str) (xs : List V) : LamX.CodeO c q ≠ .lst xs := fun e => by cases e
theorem has_ofNew {P : Program} {w : World} {K : PySem.W.Frag} {mg : Str → Option Value} {base : Heap} {n : Nat} {x : Str} {st : Stmt} {N ps : List Str} {pre : FS} (F : Df K mg x st ps) (S : FnScope N ps (defScope st)) (len : ∀ rs k, pre rs k → rs.length = ps.length)
    (flat : ∀ rs k, pre rs k → ∀ r ∈ rs, ∃ d, r = .d d ∧ noL d = true)
    (body : ∀ (f : Addr) (cdv : Value) (A : Around) (outer : List Env) (s : Shared) (H : Hp) (E : XK), Room n (A.deeper (envOfC x (defScope st) s.heap.objs.size f cdv)) → ∀ (B : Bg) (rs : List Sl) (k : Sl → Prop), pre rs k →
      RunSs (cxOf CX0 P w K mg base N x (defScope st) f cdv A outer s H E).nox B (defBody st) (startS N rs) { nx := fun _ => NewR k (.d .none), rt := NewR k }) : Has P w K mg base (n + 1) x ps pre := by
  obtain ⟨f, fd, F, hm, hb⟩ := F
  refine ⟨f, fd, F.ok S (fun vs H Q E h => ?_) (fun cdv A outer s H vs Q E hr h => ?_), hm, F.kp, hb⟩
  · obtain ⟨B, G, rs, k, _, _, ao, pr, _⟩ := h
    rw [Paired.length ao]
    exact len rs k pr
  · obtain ⟨B, G, rs, k, tt, ok, ao, pr, cont⟩ := h
    refine ⟨_, pss_self.nox, ?_⟩
    obtain ⟨B', eB⟩ : ∃ B' : Bg, (⟨fun _ => False, B.tabs⟩ : Bg) = B' := ⟨_, rfl⟩
    have bB : ∀ a, ¬ B'.bags a := fun a h => by rw [← eB] at h; exact h
    have tB : B'.tabs = B.tabs := by rw [← eB]
    have sB : ∀ a, B' a → B a := fun a h => h.elim (fun h => (bB a h).elim) fun ⟨q, hq⟩ => .inr ⟨q, by rw [← tB]; exact hq⟩
    have ok0 : Ok B' (noLst G) H := ⟨fun a o e => ok.ex _ _ (noLst_some e).1, fun b h => (bB b h).elim, fun t ht => by
      rw [tB] at ht
      obtain ⟨z, ps', e1, e2, e3⟩ := ok.tab t ht
      refine ⟨noLst_none z, ps', e1, e2, fun at_ cv hc => ?_⟩
      obtain ⟨c, ec, hc2⟩ := e3 at_ cv hc
      exact ⟨c, ec, noLst_of hc2 (code_nl c _)⟩⟩
    have ao0 : ArgOk K B' (noLst G) H vs rs := by
      have fl := flat rs k pr
      clear pr cont
      induction ao with
      | nil => exact .nil
      | @cons v r vs rs q _ ih =>
        obtain ⟨d, rfl, hd⟩ := fl r List.mem_cons_self
        exact .cons ⟨rfl, Dp.move (fun a xs h => noLst_of h fun _ e => by cases e) d hd q.2⟩ (ih fun r hr => fl r (List.mem_cons_of_mem _ hr))
    have fin : ∀ {G1 H1 : Hp}, Grow B' (noLst G) H G1 H1 → Grow B G H (joinG G G1) H1 ∧ (∀ a xs, G1 a = some (.tup xs) → joinG G G1 a = some (.tup xs)) := by
      intro G1 H1 g
      have keep : ∀ a o, G a = some o → H1 a = some o := fun a o e => g.h a o (fun h => ok.not e (sB a h)) (ok.ex _ _ e)
      have same : ∀ a o, G1 a = some o → (∀ xs, o ≠ .lst xs) → joinG G G1 a = some o := fun a o e hn => by
        cases z : G a with
        | none => rw [joinG_new z]; exact noLst_of e hn
        | some o' =>
          rw [joinG_old z]
          have h1 := keep a o' z
          have h2 := g.ok.ex a o e
          rw [h1] at h2
          exact h2
      have gone : ∀ a o, H a = some o → G a = none → joinG G G1 a = none := fun a o e z => by
        rw [joinG_new z]
        exact noLst_none (g.n a o e (noLst_none z))
      refine ⟨⟨fun a o e => joinG_old e, fun a o nb e => g.h a o (fun h => nb (sB a h)) e, gone, ⟨fun a o e => ?_, fun b hb => ?_, fun t ht => ?_⟩⟩, fun a xs e => same a _ e fun _ c => by cases c⟩
      · cases z : G a with
        | none => rw [joinG_new z] at e; exact g.ok.ex _ _ (noLst_some e).1
        | some o' =>
          rw [joinG_old z] at e
          cases e
          exact keep a _ z
      · obtain ⟨z, dl, i, ns, e1, e2, r⟩ := ok.bag b hb
        refine ⟨gone b _ e1 z, dl, i, ns, g.h b _ (fun h => ?_) e1, joinG_old e2, r⟩
        rcases h with h | ⟨q, hq⟩
        · exact bB b h
        · rw [tB] at hq
          obtain ⟨_, ps', e3, _⟩ := ok.tab _ hq
          rw [e1] at e3
          cases e3
      · obtain ⟨z, y⟩ := ok.tab t ht
        obtain ⟨ps0, e0⟩ := y.some
        obtain ⟨z1, ps', e1, e2, e3⟩ := g.ok.tab t (by rw [tB]; exact ht)
        refine ⟨gone t.1 _ e0 z, ps', e1, e2, fun at_ cv hc => ?_⟩
        obtain ⟨c, ec, hc2⟩ := e3 at_ cv hc
        exact ⟨c, ec, same c _ hc2 (code_nl c _)⟩
    refine (body f cdv A outer s H E hr B' rs k pr).run (noLst G) H (L2.start N vs) (noLst G) H _ ⟨Grow.refl ok0, envOk_start (by rw [tB]; exact tt) ao0, fun i t p e o ev => ?_⟩ ⟨fun Γ σ G1 H1 st q => ?_, fun v G1 H1 r g re q => ?_, fun _ _ _ _ _ q => q.elim, fun _ _ _ _ _ q => q.elim, fun _ _ _ => trivial⟩
    · exact (start_own (by rw [tB]; exact tt) ao0 e o).elim
    · rcases q with ⟨ds, e, _⟩ | ⟨_, q⟩
      · cases e
      · exact cont .non _ H1 _ (fin st.gr).1 (Res.dat .non) q
    · rcases q with ⟨ds, er, nl, q⟩ | ⟨er, q⟩
      · subst er
        obtain ⟨p, xs, rfl, hs, ha⟩ := Dp.lst_inv re.1
        have hs : G1 p = some (.lst xs) := hs
        have hp : H p = none := by
          cases z : H p with
          | none => rfl
          | some o =>
            exfalso
            cases z2 : noLst G p with
            | none => rw [g.n p o z z2] at hs; cases hs
            | some o' =>
              have := g.g p o' z2
              rw [hs] at this
              cases this
              exact (noLst_some z2).2 xs rfl
        have zG := ok.ex.free hp
        obtain ⟨gr, mv⟩ := fin g
        refine cont _ _ H1 (.ol ds) gr ⟨⟨p, xs, rfl, ok.notfree hp, ?_, g.ok.ex p _ hs, DpAll.move mv ds nl ha⟩, fun _ p' e => by cases e; exact hp⟩ q
        rw [joinG_new zG]
        unfold noLst
        rw [hs]
      · subst er
        have hv : Dp K G1 v .none := re.1
        cases hv
        exact cont .non _ H1 _ (fin g).1 (Res.dat .non) q
end Ab
/-! enumerate(list); a, b, c = a list; x < y over data -/
namespace Ab
open PySem PySem.Spec L2
def enumD (ds : List PyData) : List PyData := ds.zipIdx.map fun z => .tuple [.int ((z.2 : Nat) : Int), z.1]
theorem enumD_length (ds : List PyData) : (enumD ds).length = ds.length := by unfold enumD; rw [List.length_map, List.length_zipIdx]
theorem enumD_get {ds : List PyData} {i : Nat} {d : PyData} (h : ds[i]? = some d) : (enumD ds)[i]? = some (.tuple [.int ((i : Nat) : Int), d]) := by
  unfold enumD
  rw [List.getElem?_map, List.getElem?_zipIdx, h]
  simp
section
variable {X : Cx} {B : Bg} {Γ : List Sl} {k : Sl → Prop} {a b e : Expr} {pos p1 p2 p3 : Pos} {D : Dn}
theorem ei_enum {elts : List Expr} {kk : Nat} {tpos : Pos} {f : List PyData → Prop} (hm : X.mg "enumerate" = none) (h : EvE X B e Γ (Sl.lst fun ds => f (enumD ds))) (hg : Gl X "enumerate" := by rfl)
    (hs : starEach [e] X.env = [(false, eval e X.env)] := by rfl) (hs' : starEach [e] X.env = (false, eval e X.env) :: starEach [] X.env := by rfl) : EvI X B (.Tuple elts kk tpos) (.Call (.Name "enumerate" p1) [e] [] pos) Γ f :=
  ⟨fun σ G H R o en cont => tI_of (pi_enum hg hm (pa_cons pe_self pa_nil hs') hs) (h.run σ G H _ o en fun v G1 H1 r g re kr => by
    have key : ∃ G2 ds, Grow B G H G2 H1 ∧ Dp X.K G2 v (.list ds) ∧ f (enumD ds) := by
      cases r with
      | d z =>
        cases z with
        | list ds => exact ⟨G1, ds, g, re.1, kr⟩
        | _ => exact kr.elim
      | ol ds =>
        obtain ⟨G2, d, g2, hd, rfl⟩ := re.toD (f := fun z => z = .list ds) g (show (PyData.list ds = PyData.list ds) from rfl)
        exact ⟨G2, ds, g2, hd, kr⟩
      | _ => exact kr.elim
    obtain ⟨G2, ds, g2, hd, kd⟩ := key
    obtain ⟨p, xs, e, hs, ha⟩ := Dp.lst_inv hd
    subst e
    refine ⟨p, xs, rfl, (SqL.ext g2.ok.ex hs).up, cont _ G2 H1 _ g2 ⟨fun i H hi e => ?_, fun i G' H x H' _ o e y => ?_, fun H e => ?_⟩ kd⟩
    · rw [enumD_length, ← DpAll.length ha] at hi
      exact ⟨xs, xs[i], (SqL.ext e hs).up, List.getElem?_eq_getElem hi⟩
    · obtain ⟨T, x', rfl, hT, rfl, f1⟩ := y
      obtain ⟨d, e1, hx⟩ := DpAll.get ha (f1 xs (SqL.ext (e.trans o.ex) hs).up)
      have gn := Grow.new o hT (.tup [.int (i : Nat), x'])
      exact ⟨_, _, enumD_get e1, gn, .tup (SqT.of upd_same) (.cons (.int _) (.cons (Dp.ext (e.trans gn.g) _ _ hx) .nil))⟩
    · exact ⟨xs, (SqL.ext e hs).up, by rw [enumD_length, DpAll.length ha]; exact Nat.le_refl _⟩)⟩
theorem at_lst {tgs : List Expr} {is : List Nat} {kk : Nat} {ds : List PyData} {k : List Sl → Prop} (hc : X.calm = true) (h : AsgTs X B tgs is ds Γ k) (hn : (assignEach tgs X.env).length = ds.length := by rfl) (hst : (assignEach tgs X.env).findIdx? (·.1) = none := by rfl) : AsgT X B (.Tuple tgs kk p1) is (.list ds) Γ k :=
  ⟨fun σ G H v Q o en hd cont => by
    obtain ⟨p, xs, e, hs, ha⟩ := Dp.lst_inv hd
    exact tG_of (pg_unl hc pgs_self hn hst) ⟨p, xs, e, (SqL.ext o.ex hs).up, DpAll.length ha, h.run σ G H xs Q o en ha cont⟩⟩
/-! x < y -/
def rLtD (K : PySem.W.Frag) : R2 := fun x y H Q => ∃ d d2, Dp K H x d ∧ Dp K H y d2 ∧ PySem.W.alike d d2 = true ∧ d ≠ .none ∧ min d.depth d2.depth ≤ 60 ∧ Q (.bl (PySem.W.dataLt d d2)) H
theorem op_ltD (hu : X.A.units + 64 < cLine) : OpR X (compareOp .Lt) (rLtD X.K) := by
  intro pins s σ H x y v u Q I rx ry h
  obtain ⟨d, d2, hd, he, al, nn, hdep, q⟩ := h
  obtain ⟨as, r1⟩ := L2.Dp.reads I d x v (Dp.up d hd) rx
  obtain ⟨bs, r2⟩ := L2.Dp.reads I d2 y u (Dp.up d2 he) ry
  exact PySem.W.lt_data r1 r2 al nn (by omega) ⟨.bl _, H, I, rfl, q⟩
theorem et_ltD {k0 : Nat} {f : Bool → Prop} (hr : Room k0 X.A) (h : EvV X B a Γ fun d => EvV X B b Γ fun d2 => PySem.W.alike d d2 = true ∧ d ≠ .none ∧ min d.depth d2.depth ≤ 60 ∧ f (PySem.W.dataLt d d2)) : EvT X B (.Compare a [.Lt] [b] pos) Γ f :=
  et_cop (op_ltD (hu64 hr)) (nomark _) ⟨fun σ G H Q o en cont => h.run σ G H _ o en fun v G1 G' H' x g1 e1 o1 d1 k1 => k1.run σ G' H' _ g1.ok (en.grow g1) fun w G2 G3 H2 y g2 e2 o2 d2 k2 =>
    ⟨x, y, Dp.ext (g2.keep o1) _ _ d1, Dp.ext o2.ex _ _ d2, k2.1, k2.2.1, k2.2.2.1, cont _ G3 H2 _ (g1.trans g2) (Res.dat (.bl _)) k2.2.2.2⟩⟩
end
/-! the order of lots -/
theorem lots_sorted (ls : List (List Int)) : (sortLots ls).Pairwise fun a b => PySem.W.dataLt (lotKey b) (lotKey a) = false := by
  have tr : ∀ a b c : List Int, PySem.W.dataLe false lotKey a b = true → PySem.W.dataLe false lotKey b c = true → PySem.W.dataLe false lotKey a c = true := fun a b c h1 h2 => by
    have h1 : (!PySem.W.dataLt (lotKey b) (lotKey a)) = true := h1
    have h2 : (!PySem.W.dataLt (lotKey c) (lotKey b)) = true := h2
    show (!PySem.W.dataLt (lotKey c) (lotKey a)) = true
    rw [Bool.not_eq_true'] at h1 h2 ⊢
    unfold PySem.W.dataLt at h1 h2 ⊢
    cases e : PyProof.Rows.lexLt PyProof.Rows.itemOrd (PySem.W.keyToks (lotKey c)) (PySem.W.keyToks (lotKey a)) with
    | false => rfl
    | true =>
      cases e2 : PyProof.Rows.lexLt PyProof.Rows.itemOrd (PySem.W.keyToks (lotKey a)) (PySem.W.keyToks (lotKey b)) with
      | true =>
        have := PyProof.Rows.lex_trans _ _ _ e e2
        rw [h2] at this; cases this
      | false =>
        have := PyProof.Rows.lex_total _ _ e2 h1
        rw [this, h2] at e; cases e
  have to : ∀ a b : List Int, (PySem.W.dataLe false lotKey a b || PySem.W.dataLe false lotKey b a) = true := fun a b => by
    show ((!PySem.W.dataLt (lotKey b) (lotKey a)) || (!PySem.W.dataLt (lotKey a) (lotKey b))) = true
    cases e : PySem.W.dataLt (lotKey b) (lotKey a) with
    | false => rfl
    | true =>
      cases e2 : PySem.W.dataLt (lotKey a) (lotKey b) with
      | false => rfl
      | true =>
        have := PyProof.Rows.lex_trans _ _ _ (show PyProof.Rows.lexLt PyProof.Rows.itemOrd _ _ = true from e) (show PyProof.Rows.lexLt PyProof.Rows.itemOrd _ _ = true from e2)
        rw [PyProof.Rows.lex_irrefl] at this; cases this
  have h := List.pairwise_mergeSort tr to ls
  refine h.imp fun {a b} q => ?_
  have q : (!PySem.W.dataLt (lotKey b) (lotKey a)) = true := q
  rwa [Bool.not_eq_true'] at q
theorem lot_self (l : List Int) : PySem.W.dataLt (lotKey l) (lotKey l) = false := PyProof.Rows.lex_irrefl _
theorem lot_alike (l m : List Int) : PySem.W.alike (lotKey l) (lotKey m) = true := lots_alike (fun x : List Int => x) [l, m] _ (by simp) _ (by simp)
end Ab
/-! several clauses `except C as n` (one name n) -/
namespace Ab
open PySem PySem.Spec L2
open PyProof.Rows
/-- what the clauses wish, one behind the other; behind a suite the name is gone -/
def wMA (K : PySem.W.Frag) (i : Nat) (Wout : WX) (D : Ends) : List (Value × (Addr → Value → Option Addr → TS)) → WX
  | [] => Wout
  | (c, ts) :: r => fun cls d σ H => ∃ b, PySem.W.exmOne K cls c = some b ∧
      (b = true → ∀ a, H a = none → ts a cls d { nx := fun σ' H' => D.nx (σ'.set i none) H', rt := D.rt, bk := fun σ' H' => D.bk (σ'.set i none) H', ct := fun σ' H' => D.ct (σ'.set i none) H' } (σ.set i (some (.ref a))) H) ∧
      (b = false → wMA K i Wout D r cls d σ H)
inductive HdsA (X : Cx) (n : Str) : List ExceptHandler → List (Value × (Addr → Value → Option Addr → TS)) → Prop
  | nil : HdsA X n [] []
  | cons {x : Str} {c : Value} {ts : Addr → Value → Option Addr → TS} {b₀ : Stmt} {suite : List Stmt} {np pos' : Pos} {hds : List ExceptHandler} {l : List (Value × (Addr → Value → Option Addr → TS))} (hc : Names X x c)
      (hsu : ∀ (a : Addr) (oe : Obj) (cls : Value) (d : Option Addr) (pn : List (Addr × Obj)), Zc cls d oe → (∃ vs, oe.data = .fields vs) → PSs (X.suite a ((a, oe) :: pn)) (b₀ :: suite) (ts a cls d)) (r : HdsA X n hds l) :
      HdsA X n (.ExceptHandler (some (.Name x np)) (some n) (b₀ :: suite) pos' :: hds) ((c, ts) :: l)
section
variable {X : Cx} {n : Str} {i : Nat} {body : List Stmt} {h₀ : ExceptHandler} {hds : List ExceptHandler} {l : List (Value × (Addr → Value → Option Addr → TS))} {pos : Pos} {tb : WX → TS} {Wout : WX}
theorem ps_try_ma (hs : X.stack = X.env :: X.outer) (hf : X.env.frame = some X.env.locals) (hN : X.N.Nodup) (hi : X.N[i]? = some n) (hln : X.env.kindOf n = some .local) (tk : Takes X Wout)
    (hb : ∀ (W : WX) (pn : List (Addr × Obj)) (xe : Value → Shared → Prop), Takes (X.tr pn xe) W → PassesOwn (model X.prog X.w) X.A X.env xe → PSs (X.tr pn xe) body (tb W))
    (hh : HdsA X n (h₀ :: hds) l) : PS X (.Try body (h₀ :: hds) [] [] pos) (fun D σ H => tb (wMA X.K i Wout D l) D σ H) := by
  refine ⟨fun pins s σ H D I h => ?_⟩
  have ok := I.ok
  have hfr : X.A.frames = some (X.env :: X.outer) := by rw [ok.frames, hs]
  have hloc : Loc X.env.scope n := .inl hln
  refine wpAny_Try_except ?_
  refine wpAny_mono ((hb (wMA X.K i Wout D l) (X.pn ++ pins) (fun e s₁ => wpAny (model X.prog X.w) X.A (noteFrame e X.env) (fun _ s₂ => wpAny (model X.prog X.w) X.A (setFlight e none) (fun _ s₃ =>
    wpAny (model X.prog X.w) X.A (handleBy e X.env (h₀ :: hds)) (SP X pins D) X.xe s₃) X.xe s₂) X.xe s₁) (fun u s' xx => ?_) PassesOwn.looking).run [] s σ H D (I.toTry _) h) (fun f s1 hsp => ?_) (fun e s1 he => he)
  · obtain ⟨a, B, sI, pins', σ', H', cls, d, rfl, J', nb, up, sky, na, os, ag, w⟩ := xx
    have J : Inv X pins σ' H' sI := J'.ofTry ok
    have sky' : Sky B (X.env :: X.outer) a (Zc cls d) X.env.locals s'.heap := by rw [← hs]; exact sky
    show wpAny (model X.prog X.w) X.A (noteFrame (.ref a) X.env) _ _ _
    refine Sky.land Zc.steady hfr hf sky' fun h3 fl3 up3 => ?_
    have J3 : Inv X pins σ' H' { s' with heap := h3 } := J.landed nb fl3.1 (up.trans up3) os ag
    obtain ⟨oe3, vs3, he3, hz3, hd3⟩ := fl3.there
    have notFr : ∀ {h : Heap} {o : Obj} {vs : Array Value}, h.FunFrames B (X.env :: X.outer) → h.get? a = some o → o.data = .fields vs → a ∉ frs (X.env :: X.outer) := fun {h o vs} ff e dd hm => by
      obtain ⟨_, o', e', hnf⟩ := ff.mem hm
      rw [e] at e'; cases e'
      exact hnf _ dd
    have nfr := notFr fl3.2.2.1 he3 hd3
    have nL : a ≠ X.env.locals := fun z => nfr (List.mem_filterMap.mpr ⟨X.env, List.mem_cons_self, by rw [hf, z]⟩)
    have nF : a ∉ X.fs := fun hm => by
      obtain ⟨e, he, q⟩ := List.mem_filterMap.mp hm
      exact nfr (List.mem_filterMap.mpr ⟨e, List.mem_cons_of_mem _ he, q⟩)
    have S3 := J3.suite he3 hd3 na nL nF
    have go : ∀ {hds' : List ExceptHandler} {l' : List (Value × (Addr → Value → Option Addr → TS))}, HdsA X n hds' l' → wMA X.K i Wout D l' cls d σ' H' →
        wpAny (model X.prog X.w) X.A (handleBy (.ref a) X.env hds') (SP X pins D) X.xe { s' with heap := h3 } := by
      intro hds' l' hk
      induction hk with
      | nil =>
        intro w
        refine wpAny_handleBy_nil ?_
        obtain ⟨k1, k2, k3, oe, vs, T, oT, ts', he, hz, hd, h1, hr⟩ := id fl3
        unfold PySem.passOn
        refine wpAny_bind (wpAny_field he hd h1 ?_)
        rw [if_neg (show ¬ ((Value.ref T == Value.none) = true) from by simp)]
        have fin : wpAny (model X.prog X.w) X.A (setFlight (.ref a) X.env.frame) (fun _ s4 => wpAny (model X.prog X.w) X.A (throw (.ref a) : Sem Flow) (SP X pins D) X.xe s4) X.xe { s' with heap := h3 } := by
          rw [hf]
          refine HandSPX.setFlight_upZ fl3 fun h4 hh4 up4 => wpAny_throw (tk _ _ ?_)
          exact ⟨a, B, sI, pins, σ', H', cls, d, rfl, J, nb, (up.trans up3).trans up4, .inr (.inr (by rw [hs]; exact hh4)), na, os, ag, w⟩
        first
          | exact wpAny_bind (wpAny_pure (wpAny_bind fin))
          | exact wpAny_bind fin
      | @cons x c ts b₀ suite np pos' hds2 l2 hc hsu r ih =>
        intro w
        obtain ⟨b, hb1, hyes, hno⟩ := w
        refine wpAny_handleBy_cons (codeAny_handlers_test ?_) (by intro q; cases q)
        have LT : PySem.W.Looks (model X.prog X.w) h3 (typeOf (.ref a)) cls := fun A Q E s k q => wpAny_typeOf_ref (k _ _ he3) (by rw [hz3.1]; exact q)
        have LM := PySem.W.exm_one (M := model X.prog X.w) (J3.kIn) LT hb1
        have test : ∀ {Q : Value → Shared → Prop} {E : Value → Shared → Prop}, Q c { s' with heap := h3 } → wpAny (model X.prog X.w) (X.A.mark (some (.ref a))) (eval (.Name x np) X.env) Q E { s' with heap := h3 } := fun {Q E} q => by
          obtain ⟨hg, hdbg, hm | ⟨hm, hv, hnn⟩⟩ := hc
          · exact ld_glob (X := X.suite a ((a, oe3) :: (X.pn ++ pins))) S3 hg hm q hdbg
          · exact ld_blt (X := X.suite a ((a, oe3) :: (X.pn ++ pins))) S3 hg hm hv q hnn hdbg
        refine test (LM.here ?_)
        cases b with
        | true =>
          refine codeAny_handlers_suite_as ?_
          refine HandSPX.lands_againZ fl3 fun h4 fl4 up4 => ?_
          have J4 : Inv X pins σ' H' { s' with heap := h4 } := J.landed nb fl4.1 ((up.trans up3).trans up4) os ag
          obtain ⟨oe4, vs4, he4, hz4, hd4⟩ := fl4.there
          have S4 := J4.suite he4 hd4 na nL nF
          refine store_ok (X := X.suite a ((a, oe4) :: (X.pn ++ pins))) (v := .ref a) S4 hN hi hloc rfl (fun s5 S5 => ?_) (.inr hln)
          refine wpAny_mono ((hsu a oe4 cls d (X.pn ++ pins) hz4 ⟨_, hd4⟩).run [] s5 _ H' _ S5 (hyes rfl a na)) (fun f s6 hsp => ?_) (fun _ _ z => False.elim z)
          have end_ : ∀ {σ6 : L2.St} {H6 : Hp} {Q : Shared → Prop}, Inv (X.suite a ((a, oe4) :: (X.pn ++ pins))) [] σ6 H6 s6 → (∀ s7, Inv X pins (σ6.set i none) H6 s7 → Q s7) →
              wpAny (model X.prog X.w) X.A (do bindName X.env n .none; unbindBehindTheSuite X.env n pos') (fun _ s7 => Q s7) X.xe s6 := fun {σ6 H6 Q} S6 hq => gone_ok (S6.unsuite ok) hN hi hln hq
          cases f with
          | next =>
            obtain ⟨σ6, H6, S6, q6⟩ := hsp
            exact end_ S6 fun s7 J7 => ⟨_, _, J7, q6⟩
          | brk =>
            obtain ⟨σ6, H6, S6, q6⟩ := hsp
            exact end_ S6 fun s7 J7 => ⟨_, _, J7, q6⟩
          | cont =>
            obtain ⟨σ6, H6, S6, q6⟩ := hsp
            exact end_ S6 fun s7 J7 => ⟨_, _, J7, q6⟩
          | ret u =>
            obtain ⟨v6, σ6, H6, S6, r6, q6⟩ := hsp
            exact end_ S6 fun s7 J7 => ⟨_, _, _, J7, r6, q6⟩
        | false =>
          show wpAny _ X.A (handleBy (.ref a) X.env hds2) _ _ _
          exact ih (hno rfl)
    exact go hh w
  · cases f with
    | next =>
      obtain ⟨σ', H', J', q⟩ := hsp
      exact wpAny_execs_nil ⟨σ', H', J'.ofTry ok, q⟩
    | brk =>
      obtain ⟨σ', H', J', q⟩ := hsp
      exact ⟨σ', H', J'.ofTry ok, q⟩
    | cont =>
      obtain ⟨σ', H', J', q⟩ := hsp
      exact ⟨σ', H', J'.ofTry ok, q⟩
    | ret u =>
      obtain ⟨v, σ', H', J', r, q⟩ := hsp
      exact ⟨v, σ', H', J'.ofTry ok, r, q⟩
end
end Ab
/-! exceptions of own classes with one field: made, raised, caught -/
namespace PySem.W
open PySem PySem.Spec PySem.Calls PyProof.Rows
section
variable {prog : Program} {w : World} {A : Around} {E : Value → Shared → Prop} {s : Shared} {K : Frag} {x D : Addr} {ox : Obj}
theorem findObj_dataD {C : Addr} {od : Option Obj} {name : Str} {a g : Value} (hc : (clsIn K C).isSome = true) (ha : findIn K (.ref C) name = some (some a)) (hg : specialIn K a "__get__" = some (some g)) (ht : takesIn K a = some true) : findObj K C od name = some (.bind g a) := by
  obtain ⟨cd, hc⟩ := Option.isSome_iff_exists.mp hc
  unfold findObj
  rw [hc, Option.bind_some, ha, Option.bind_some]
  simp [hg, ht]
theorem kin_classD {od : Option Obj} {Q : Option Value → Shared → Prop} (hga : findIn K (.ref D) "__getattribute__" = some (some (.builtin "BaseException.__getattribute__"))) (hgt : findIn K (.ref D) "__getattr__" = some none) (hsub : subIn K (.ref D) (.type "BaseException") = some true)
    (hdct : hasDictIn K D = true) (ha : findIn K (.ref D) "__class__" = some (some (.builtin "object.__class__")))
    (hn : specialIn K (.builtin "object.__class__") "__get__" = some (some (.builtin "getset_descriptor.__get__"))) (htk : takesIn K (.builtin "object.__class__") = some true) (hm : mroIn K D (.type "object") = some true)
    (X : K.In s.heap) (I : InstAt s.heap x ox D od) (h : Q (some (.ref D)) { s with toks := s.toks + 1 }) : wpAny (model prog w) A (getAttr? (.ref x) "__class__") Q E s := by
  have hf : findObj K D od "__class__" = some (.bind (.builtin "getset_descriptor.__get__") (.builtin "object.__class__")) := findObj_dataD (by obtain ⟨cd, hc, _⟩ := any_some hdct; rw [hc]; rfl) ha hn htk
  obtain ⟨hp, g, d, t, os⟩ := s
  have L0 := I.type (M := model prog w)
  have L1 := looks_findIn (M := model prog w) X hga
  have L2 := looks_findIn (M := model prog w) X hgt
  have L3 := looks_find (M := model prog w) X I hf
  have sub : Looks (model prog w) hp (isInstance (.ref x) (.type "BaseException")) true := L0.andThen (looks_subIn X hsub)
  have hx0 : (false && onTheHeap (Value.builtin "BaseException.__getattribute__")) = false := rfl
  have hx2 : (Value.builtin "BaseException.__getattribute__" == Value.builtin "object.__getattribute__") = false := by decide +kernel
  have hx1 : (onTheHeap (Value.ref D) && Value.builtin "BaseException.__getattribute__" == Value.builtin "object.__getattribute__") = false := by rw [hx2]; rfl
  unfold getAttr? getAttrBy? getAttrBy
  refine wpAny_bind (wpAny_mkText (wpAny_bind (wpAny_attempt (wpAny_holding (wpAny_bind (L0.at (wpAny_bind (L1.at ?_))))))))
  show wpAny _ _ (if (onTheHeap (Value.ref D) && Value.builtin "BaseException.__getattribute__" == Value.builtin "object.__getattribute__") = true then _ else _) _ _ _
  rw [hx1, if_neg Bool.false_ne_true]
  unfold getAttrByItsOwn hookBefore
  refine wpAny_bind ?_
  rw [if_pos (show onTheHeap (Value.ref D) = true from rfl)]
  refine L2.at ?_
  refine wpAny_bind (wpAny_attempt (wpAny_holding ?_))
  unfold callGetattribute
  rw [hx0, if_neg Bool.false_ne_true]
  unfold boundAndCalled
  rw [PySem.F.excAttr_ValueError.ga.bind (.ref x)]
  refine wpAny_bind (wpAny_pure ?_)
  show wpAny _ _ (call (.builtin "BaseException.__getattribute__") [.ref x, .str "__class__" t]) _ _ _
  refine wpAny_call (codeAny_call_builtin PySem.F.excAttr_ValueError.ga.plain PySem.F.entry_bexc_ga ?_)
  refine @check_slot (model prog w) _ _ ⟨hp, g, d, t + 1, os⟩ "BaseException.__getattribute__" "BaseException" "__getattribute__" (.ref x) [.str "__class__" t] [] _ (by decide +kernel) (by decide +kernel) sub (PySem.F.args_bexc_ga (.ref x) (.str "__class__" t)) ?_
  unfold Builtin.«object.__getattribute__»
  refine wpAny_bind (wpAny_of_eq (a := ((Value.ref x : Value), [Value.str "__class__" t])) (by first | rfl | (simp only [slotArgs]; rfl)) ?_)
  refine wpAny_bind (wpAny_pure (wpAny_bind (L0.at (wpAny_bind (L3.at ?_)))))
  show wpAny _ _ (holding [Value.builtin "object.__class__"] (call (.builtin "getset_descriptor.__get__") [.builtin "object.__class__", .ref x, .ref D]) >>= ret) _ _ _
  refine wpAny_bind (wpAny_holding (wpAny_call (class_get (s := ⟨hp, g, d, t + 1, os⟩) (ox := ox) (od := od) X I hm ?_)))
  refine wpAny_pure ?_
  show wpAny _ _ (handedOut (.ref D)) _ _ _
  rw [handedOut_of (v := .ref D) rfl]
  first
    | exact wpAny_pure (wpAny_pure h)
    | exact wpAny_pure h
    | exact wpAny_pure (wpAny_bind (wpAny_pure (wpAny_pure h)))
theorem kitx_excD (hga : findIn K (.ref D) "__getattribute__" = some (some (.builtin "BaseException.__getattribute__"))) (hgt : findIn K (.ref D) "__getattr__" = some none) (hsub : subIn K (.ref D) (.type "BaseException") = some true) (hdct : hasDictIn K D = true) (ha : findIn K (.ref D) "__class__" = some (some (.builtin "object.__class__")))
    (hn : specialIn K (.builtin "object.__class__") "__get__" = some (some (.builtin "getset_descriptor.__get__"))) (htk : takesIn K (.builtin "object.__class__") = some true) (hm : mroIn K D (.type "object") = some true) :
    KitX K (.ref x) (.ref D) (fun h => ∃ od, InstAt h x ox D od) where
  ty := fun _ _ _ ⟨_, I⟩ => I.type
  it := fun _ _ X _ => by
    obtain ⟨cdD, hcD, _⟩ := any_some hdct
    unfold clsIn at hcD
    split at hcD
    · rename_i c' d' cd' sl' ho
      intro A' Q' E' s' k q
      unfold isType loadHead
      exact wpAny_bind (wpAny_loadPart (k _ _ (X _ _ ho)) (wpAny_pure q))
    · cases hcD
  ne := fun h tp dd its n sl X htp => by
    obtain ⟨cdD, hcD, _⟩ := any_some hdct
    refine Bool.eq_false_iff.mpr fun q => ?_
    have e : D = tp := Value.ref.inj (beq_iff_eq.mp q)
    subst e
    unfold clsIn at hcD
    split at hcD
    · rename_i c' d' cd' sl' ho
      have z := (X _ _ ho).symm.trans htp
      cases z
    · cases hcD
  ca := fun X ⟨_, I⟩ k => kin_classD hga hgt hsub hdct ha hn htk hm X I k
end
end PySem.W
namespace Ab
open PySem PySem.Spec PyProof.Rows L2
/-- isinstance(e, c), e the exception of the suite, with a dict or without -/
def rIsD (K : PySem.W.Frag) (D a : Addr) (d : Option Addr) : List V → Hp → VK → Prop := fun xs H Q => ∃ (c : V) (cv : Value) (b : Bool), xs = [.ref a, c] ∧ (∀ u, RelV c u → u = cv) ∧ (∀ dx, d = some dx → ∃ u, H dx = some u) ∧ PySem.W.kitOne K (.ref D) cv = some b ∧ Q (.bl b) H
theorem call_isX {X : Cx} {a D : Addr} {d : Option Addr} {oe : Obj} {pn : List (Addr × Obj)} (C : ExcC X.K D) (hz : Zc (.ref D) d oe) (hf : ∃ vs, oe.data = .fields vs) : CallR (X.suite a ((a, oe) :: pn)) (.builtin "isinstance") (rIsD X.K D a d) := by
  intro pins s σ H xs us Q I r h
  obtain ⟨c, cv, b, rfl, hcv, hdx, e, q⟩ := h
  cases r with
  | cons rx rr =>
    cases rr with
    | cons rt rr =>
      cases rr
      cases rx
      have ec := hcv _ rt
      subst ec
      obtain ⟨hget, _⟩ := I.pin (a, oe) (List.mem_append.mpr (.inl List.mem_cons_self))
      obtain ⟨vs, hv⟩ := hf
      have J : ∃ od, PySem.W.InstAt s.heap a oe D od := by
        obtain ⟨oc, od, oda, osl⟩ := oe
        obtain ⟨h1, h2⟩ := hz
        dsimp only at h1 h2 hv
        subst h1 h2 hv
        cases od with
        | none => exact ⟨none, hget, rfl, rfl, trivial⟩
        | some dx =>
          obtain ⟨u, hu⟩ := hdx dx rfl
          obtain ⟨ob, hob⟩ := objOk_get (I.hok dx u hu)
          exact ⟨some ob, hget, rfl, rfl, hob⟩
      exact PySem.W.kia_one (PySem.W.kitx_excD C.hg C.hk C.hs C.hd C.ha C.hn C.ht C.hm) I.kIn J e (fun z => nomatch z) fun tk => ⟨.bl b, H, I.kept (t' := tk) fun _ _ z => z, rfl, q⟩

/-- S.__init__(self, ..), S an own class whose __init__ is the built-in's -/
structure SeC (K : PySem.W.Frag) (S : Addr) : Prop where
  rd : PySem.W.readsIn K S (.type "type") = true
  ga : PySem.W.specialIn K (.ref S) "__getattribute__" = some (some (.builtin "type.__getattribute__"))
  fi : PySem.W.findCls K (.ref S) (.type "type") "__init__" = some (.val (.builtin "ValueError.__init__"))
section
variable {X : Cx} {o e : Expr} {es : List Expr} {to te : TE} {ta : TA} {f : Str} {p p' p1 p2 pos : Pos}
theorem pe_seinit {S : Addr} {x : Str} {pl : Sem Bool} (hg : Gl X x) (hm : X.mg x = some (.ref S)) (T : SeC X.K S) (ha : PA X (e :: es) ta) (hdb : (x == ("__debug__" : Str)) = false := by decide)
    (hc : eval (.Call (.Attribute (.Name x p1) "__init__" p2) (e :: es) [] pos) X.env = (do
      let ov ← eval (.Name x p1) X.env
      standAt p2.atName
      let (f, first) ← holding [ov] (getMethod ov "__init__" pl)
      callWith pos f first (backTo pos (starEach (e :: es) X.env)) (backToKw pos (keywordEach [] X.env))) := by rfl)
    (he : starEach (e :: es) X.env = (false, eval e X.env) :: starEach es X.env := by rfl) (hpl : (backTo pos (starEach es X.env)).any (·.1) = false := by rfl) :
    PE X (.Call (.Attribute (.Name x p1) "__init__" p2) (e :: es) [] pos) (tVeI X.K ta) := by
  refine ⟨fun pins s σ H Q I h => ?_⟩
  refine PySem.W.methodCall_KW (ld_glob I hg hm ?_ hdb) hc
  refine PySem.W.method_cls I.kIn T.ga ?_
  refine PySem.W.cls_value I.kIn T.rd T.fi (by decide +kernel) ?_
  show wpAny _ _ (callWith pos (Value.builtin "ValueError.__init__") [] (backTo pos (starEach (e :: es) X.env)) []) _ _ _
  refine PyProof.Rows.callWith_method1 (thn (ha.run pos pins _ σ H _ (I.tok _) h) fun us s1 ⟨vs, H1, I1, r1, a, C, ws, ev, hl, T, ea, q⟩ => ?_) he hpl
  subst ev
  cases r1 with
  | @cons _ u0 _ ur ra rw' =>
    obtain rfl : u0 = Value.ref a := ra
    have hlen : ur.length ≤ sizeLine := by
      rw [← Paired.length rw', sizeLine_eq]
      omega
    exact oinit_ok T I1 ea hlen fun s' J => ⟨.non, H1, J, rfl, q⟩
end

/-! ### an own exception class with one field -/
structure XCls (K : PySem.W.Frag) (mg : Str → Option Value) (x f : Str) (C fI : Addr) : Prop where
  mgC : mg x = some (.ref C)
  T : OexC K C
  iC : PySem.W.findIn K (.ref C) "__init__" = some (some (.ref fI))
  tI : PySem.W.typeIn K (.ref fI) = some (.type "function")
  no : PySem.W.findIn K (.ref C) f = some none
  xf : XfC K C
  ec : ExcC K C
def spInit (C : Addr) (f : Str) : Sp := fun vs H Q _ => ∃ (a : Addr) (v : V) (H1 : Hp), vs = [.ref a, v] ∧ H = upd H1 a (exo a C none) ∧ H1 a = none ∧
  ∀ d, H1 d = none → d ≠ a → Q .non (upd (upd H d (exd d [(f, v)])) a (exo a C (some d)))

/-! ### what a def lets out -/
/-- an exception on data: of a class without a field of its own; of one with the field f -/
inductive Exn where
  | bare (x : Str)
  | fld (x f : Str) (d : PyData)
def ExnOk (K : PySem.W.Frag) (mg : Str → Option Value) (G : Hp) (cls : Value) (dx : Option Addr) : Exn → Prop
  | .bare x => mg x = some cls ∧ dx = none
  | .fld x f d => mg x = some cls ∧ ∃ a v, dx = some a ∧ G a = some (.xd [(f, v)]) ∧ Dp K G v d
/-- behind (G, H): an exception as ke tells it is as E wishes -/
def ExE (K : PySem.W.Frag) (mg : Str → Option Value) (B : Bg) (ke : Exn → Prop) (E : XK) : Hp → Hp → Prop := fun G H => ∀ cls dx G' H' e, Grow B G H G' H' → ExnOk K mg G' cls dx e → ke e → E cls dx H'
theorem ExE.grow {K : PySem.W.Frag} {mg : Str → Option Value} {B : Bg} {ke : Exn → Prop} {E : XK} {G H G' H' : Hp} (h : ExE K mg B ke E G H) (g : Grow B G H G' H') : ExE K mg B ke E G' H' := fun cls dx G2 H2 e g2 => h cls dx G2 H2 e (g.trans g2)
abbrev FSX := List Sl → (Sl → Prop) → (Exn → Prop) → Prop
def SpX (K : PySem.W.Frag) (mg : Str → Option Value) (pre : FSX) : Sp := fun vs H Q E => ∃ B G rs k ke, B.tabs = lamTabs K ∧ Ok B G H ∧ ArgOk K B G H vs rs ∧ pre rs k ke ∧ (∀ v G' H' r, Grow B G H G' H' → Res K B H G' H' v r → k r → Q v H') ∧ ExE K mg B ke E G H
/-- it keeps its promise; it may let out an exception as told -/
def HasX (P : Program) (w : World) (K : PySem.W.Frag) (mg : Str → Option Value) (base : Heap) (n : Nat) (x : Str) (ps : List Str) (pre : FSX) : Prop :=
  ∃ f fd, FnOk P w K mg base (L2.CX P w) n f fd ps (SpX K mg pre) ∧ mg x = some (.ref f) ∧ PySem.W.keepIn K (.ref f) = true ∧ Binds K fd ps []
/-- THE RULE for such a def -/
theorem has_ofX {P : Program} {w : World} {K : PySem.W.Frag} {mg : Str → Option Value} {base : Heap} {n : Nat} {x : Str} {st : Stmt} {N ps : List Str} {pre : FSX} (F : Df K mg x st ps) (S : FnScope N ps (defScope st)) (len : ∀ rs k ke, pre rs k ke → rs.length = ps.length)
    (body : ∀ (f : Addr) (cdv : Value) (A : Around) (outer : List Env) (s : Shared) (H : Hp) (E : XK), Room n (A.deeper (envOfC x (defScope st) s.heap.objs.size f cdv)) →
      Takes (cxOf (L2.CX P w) P w K mg base N x (defScope st) f cdv A outer s H E) (fun cls d _ H' => E cls d H') → PassesOwn (model P w) (A.deeper (envOfC x (defScope st) s.heap.objs.size f cdv)) (envOfC x (defScope st) s.heap.objs.size f cdv) (cxOf (L2.CX P w) P w K mg base N x (defScope st) f cdv A outer s H E).xe →
      ∀ (B : Bg) (rs : List Sl) (k : Sl → Prop) (ke : Exn → Prop), pre rs k ke →
      RunSs (cxOf (L2.CX P w) P w K mg base N x (defScope st) f cdv A outer s H E) B (defBody st) (startS N rs) { nx := fun _ => k (.d .none), rt := k, ex := ExE K mg B ke E }) : HasX P w K mg base (n + 1) x ps pre := by
  obtain ⟨f, fd, F, hm, hb⟩ := F
  refine ⟨f, fd, F.ok S (fun vs H Q E h => ?_) (fun cdv A outer s H vs Q E hr h => ?_), hm, F.kp, hb⟩
  · obtain ⟨B, G, rs, k, ke, _, _, ao, pr, _⟩ := h
    rw [Paired.length ao]
    exact len rs k ke pr
  · obtain ⟨B, G, rs, k, ke, tt, ok, ao, pr, cont, cex⟩ := h
    refine ⟨_, pss_self, ?_⟩
    have tk : Takes (cxOf (L2.CX P w) P w K mg base N x (defScope st) f cdv A outer s H E) (fun cls d _ H' => E cls d H') := takes_of rfl rfl rfl rfl
    refine (body f cdv A outer s H E hr tk (passes_of (X := cxOf (L2.CX P w) P w K mg base N x (defScope st) f cdv A outer s H E) rfl) B rs k ke pr).run G H (L2.start N vs) G H _ ⟨Grow.refl ok, envOk_start tt ao, fun i t p e o ev => ?_⟩ ⟨fun Γ σ G' H' st q => cont .non G' H' _ st.gr (Res.dat .non) q, fun v G' H' r g re q => cont v G' H' r g re q, fun _ _ _ _ _ q => q.elim, fun _ _ _ _ _ q => q.elim, fun G1 H1 g1 => cex.grow g1⟩
    exact (start_own tt ao e o).elim
section
variable {X : Cx} {B : Bg} {Γ : List Sl} {D : Dn} {e : Expr} {es : List Expr} {p1 pos pos2 : Pos} {E : XK} {ke : Exn → Prop}
/-- raise x(e) -/
theorem rs_raise {x f : Str} {C fI : Addr} {k k0 : Nat} {fd : FuncData} (T : XCls X.K X.mg x f C fI) (F1 : FnOk X.prog X.w X.K X.mg X.base CX0 k fI fd ["self", f] (spInit C f)) (hb : Binds X.K fd ["self", f] []) (hr : Room k0 X.A) (tk : Takes X (fun cls d _ H => E cls d H))
    (hc : X.calm = true) (hex : D.ex = ExE X.K X.mg B ke E) (h : EvD X B e Γ fun d => ke (.fld x f d)) (hk : k + 1 ≤ k0 := by decide) (hg : Gl X x := by rfl) (hdb : (x == ("__debug__" : Str)) = false := by decide) (he : starEach [e] X.env = (false, eval e X.env) :: starEach [] X.env := by rfl) (hpl : (backTo pos (starEach [] X.env)).any (·.1) = false := by rfl) :
    RunS X B (.Raise (some (.Call (.Name x p1) [e] [] pos)) none pos2) Γ D :=
  ⟨fun G0 H0 σ G H DH s d => tS_of (ps_raise hc tk (pmk_oex (CX := CX0) T.T T.iC T.tI F1 (hr.mono hk) hb .nil pass0 hg T.mgC (pa_cons pe_self pa_nil he) hdb he hpl)) (h.run σ G H _ s.gr.ok s.en fun v G1 H1 dd g hd kd => by
    refine ⟨Nat.le_of_lt (show 1 < 1000 by decide), fun a ha => ⟨a, v, H1, rfl, rfl, ha, fun dx hdx nda => ⟨rfl, dx, [(f, v)], upd_same, by rw [upd_ne nda, upd_same], hdx, ?_⟩⟩⟩
    have eh : upd (del (upd (upd (upd H1 a (exo a C none)) dx (exd dx [(f, v)])) a (exo a C (some dx))) a) dx (.xd [(f, v)]) = upd H1 dx (.xd [(f, v)]) := by
      funext b
      by_cases h1 : b = dx
      · subst h1; rw [upd_same, upd_same]
      · rw [upd_ne h1, upd_ne h1]
        by_cases h2 : b = a
        · subst h2; rw [del_same, ha]
        · rw [del_ne h2, upd_ne h2, upd_ne h1, upd_ne h2]
    have dex := d.ex G1 H1 (s.gr.trans g)
    rw [hex] at dex
    rw [eh]
    have gn := Grow.new g.ok hdx (.xd [(f, v)])
    exact dex (.ref C) (some dx) _ _ (.fld x f dd) gn ⟨T.mgC, dx, v, rfl, upd_same, Dp.ext gn.g _ _ hd⟩ kd)⟩
/-! ### a def handed over, called in a try -/
theorem run_fnE {CX : CXT} {k : Nat} {f : Addr} {fd : FuncData} {ps : List Str} {sp : Sp} {pins : List (Addr × Obj)} {σ : L2.St} {H : Hp} {s : Shared} {Q : VK} {us : List Value} {vs : List V} (F : FnOk X.prog X.w X.K X.mg X.base CX k f fd ps sp) (hr : Room k X.A) (hb : Binds X.K fd ps [])
    (hx : ∀ e s', CX X.stack H s E e s' → X.xe e s') (I : Inv X pins σ H s) (r : Vals vs us) (h : sp vs H Q E) : wpAny (model X.prog X.w) X.A (call (.ref f) us) (EP X pins σ Q) X.xe s := by
  have r2 : Vals (vs ++ []) (us ++ []) := r.append .nil
  rw [List.append_nil] at r2
  have hl : (us ++ []).length = ps.length := by rw [List.append_nil, ← r.length]; exact F.len _ _ _ _ h
  refine wpAny_call (codeAny_mono (F.run X.A X.stack s H ⟨us, []⟩ (us ++ []) vs Q E hr I.env0 (hb s us I.kIn hl) r2 h) fun r s' hq => ?_)
  cases r with
  | error e => exact hx e s' hq
  | ok fl =>
    cases fl with
    | ret u => exact I.after hq
    | next => exact False.elim hq
    | brk => exact False.elim hq
    | cont => exact False.elim hq
/-- x(e, ..), x a local name that holds the def f: what it may let out is wished by W -/
theorem ps_callX {W : WX} {i : Nat} {x : Str} {k : Nat} {f : Addr} {fd : FuncData} {ps : List Str} {sp : Sp} {t : TA} {p p2 : Pos} (tk : Takes X W) (F : FnOk X.prog X.w X.K X.mg X.base (L2.CX X.prog X.w) k f fd ps sp) (hr : Room k X.A) (hN : X.N[i]? = some x) (hv : Vis X.env.scope x) (hk : PySem.W.keepIn X.K (.ref f) = true) (hb : Binds X.K fd ps [])
    (ha : PA X (e :: es) t) (hsw : swapsWith (.Call (.Name x p1) (e :: es) [] p) none p2.line X.env = pure false := by rfl) (hdb : (x == ("__debug__" : Str)) = false := by decide) (hcd : (x == ("__classdict__" : Str)) = false := by decide) (he : starEach (e :: es) X.env = (false, eval e X.env) :: starEach es X.env := by rfl) (hpl : (backTo p (starEach es X.env)).any (·.1) = false := by rfl) :
    PS X (.Expr (.Call (.Name x p1) (e :: es) [] p) p2) (fun D σ H => σ[i]? = some (some (.ref f)) ∧ t σ H fun vs H1 => sp vs H1 (fun _ H2 => D.nx σ H2) (fun cls d H2 => W cls d σ H2)) := by
  refine ⟨fun pins s σ H D I ⟨hσ, h⟩ => ?_⟩
  refine (ps_expr (te := fun σ H Q => σ[i]? = some (some (.ref f)) ∧ t σ H fun vs H1 => sp vs H1 Q (fun cls d H2 => W cls d σ H2)) ⟨fun pins s σ H Q I ⟨hσ, h⟩ => ?_⟩ hsw).run pins s σ H D I ⟨hσ, h⟩
  refine wpAny_Call_Name_kw (thn ((pe_var hN hv hdb hcd).run pins s σ H (fun v H1 => v = .ref f ∧ H1 = H) I ⟨.ref f, hσ, rfl, rfl⟩) fun u s1 ⟨v, H1, I1, r1, e1, e2⟩ => ?_)
  subst e1 e2
  obtain rfl : u = Value.ref f := r1
  refine PySem.W.callWith_K (h₀ := X.base) I1.ok.mod.kin hk (thn (ha.run p pins s1 σ _ _ I1 h) fun us s2 ⟨vs, H2, I2, r, q⟩ => ⟨I2.kIn, ?_⟩) he hpl
  exact run_fnE F hr hb (fun e s' c => tk e s' (XE.of_call I2 (fun cls d H' h => h) c)) I2 r q
end
end Ab
/-! try: f(..) except C as n: .., f a def handed over -/
namespace Ab
open PySem PySem.Spec PyProof.Rows L2
/-- a suite's reading, for any caught exception -/
def tSui (X : Cx) (suite : List Stmt) (a : Addr) (cls : Value) (d : Option Addr) : TS := fun D σ H => ∀ (oe : Obj) (pn : List (Addr × Obj)), Zc cls d oe → (∃ vs, oe.data = .fields vs) → tSs (X.suite a ((a, oe) :: pn)) suite D σ H
theorem sui_self {X : Cx} {suite : List Stmt} (a : Addr) (oe : Obj) (cls : Value) (d : Option Addr) (pn : List (Addr × Obj)) (hz : Zc cls d oe) (hf : ∃ vs, oe.data = .fields vs) : PSs (X.suite a ((a, oe) :: pn)) suite (tSui X suite a cls d) :=
  ⟨fun pins s σ H D I h => h oe pn hz hf pins s I⟩
section
variable {X : Cx} {B : Bg} {Γ : List Sl} {D : Dn} {e c : Expr} {es : List Expr} {p p1 p2 p3 pos : Pos} {G0 H0 G H : Hp} {σ : L2.St} {DH : Ends} {i : Nat} {n : Str}
theorem EnvOk.unset {K : PySem.W.Frag} (h : EnvOk K B G H σ Γ) (i : Nat) : EnvOk K B G H (σ.set i none) (Γ.set i .x) := by
  have back : ∀ (j : Nat) s, (Γ.set i .x)[j]? = some s → s ≠ .x → j ≠ i ∧ Γ[j]? = some s := fun j s e n => by
    by_cases hj : i = j
    · subst hj
      by_cases hi : i < Γ.length
      · rw [List.getElem?_set_self hi] at e; cases e; exact absurd rfl n
      · rw [List.getElem?_eq_none (by simpa using hi)] at e; cases e
    · rw [List.getElem?_set_ne hj] at e; exact ⟨Ne.symm hj, e⟩
  refine ⟨by simpa using h.len, h.tt, fun j s e n => ?_, fun a b s t u ne ea eb oa ob va vb => ?_⟩
  · obtain ⟨nj, e2⟩ := back j s e n
    obtain ⟨v, e3, q⟩ := h.ok j s e2 n
    exact ⟨v, by rw [List.getElem?_set_ne (Ne.symm nj)]; exact e3, q⟩
  · obtain ⟨na, ea2⟩ := back a s ea (by rintro rfl; cases oa)
    obtain ⟨nb, eb2⟩ := back b t eb (by rintro rfl; cases ob)
    rw [List.getElem?_set_ne (Ne.symm na)] at va
    rw [List.getElem?_set_ne (Ne.symm nb)] at vb
    exact h.sep a b s t u ne ea2 eb2 oa ob va vb
theorem StOk.unset {K : PySem.W.Frag} (s : StOk K B G0 H0 σ G H Γ) (i : Nat) : StOk K B G0 H0 (σ.set i none) G H (Γ.set i .x) := by
  refine ⟨s.gr, s.en.unset i, fun j t p e2 o2 ev => ?_⟩
  by_cases hj : i = j
  · subst hj
    by_cases hi : i < Γ.length
    · rw [List.getElem?_set_self hi] at e2; cases e2; cases o2
    · rw [List.getElem?_eq_none (by simpa using hi)] at e2; cases e2
  · rw [List.getElem?_set_ne hj] at e2 ev
    exact s.fr j t p e2 o2 ev
/-- what is wanted behind a suite: the name is gone -/
def Dn.gone (D : Dn) (i : Nat) : Dn := { nx := fun Γ' => D.nx (Γ'.set i .x), rt := D.rt, bk := fun Γ' => D.bk (Γ'.set i .x), ct := fun Γ' => D.ct (Γ'.set i .x) }
theorem DnOk.gone {K : PySem.W.Frag} (d : DnOk K B G0 H0 D DH) (i : Nat) : DnOk K B G0 H0 (D.gone i) { nx := fun σ' H' => DH.nx (σ'.set i none) H', rt := DH.rt, bk := fun σ' H' => DH.bk (σ'.set i none) H', ct := fun σ' H' => DH.ct (σ'.set i none) H' } :=
  ⟨fun Γ σ G H s q => d.nx _ _ G H (s.unset i) q, d.rt, fun Γ σ G H s q => d.bk _ _ G H (s.unset i) q, fun Γ σ G H s q => d.ct _ _ G H (s.unset i) q, fun _ _ _ => trivial⟩
/-- it is the clause's -/
theorem wMA_here {Wout : WX} {cv cls : Value} {d : Option Addr} {suite : List Stmt} {l : List (Value × (Addr → Value → Option Addr → TS))} (hs : StOk X.K B G0 H0 σ G H Γ) (hd : DnOk X.K B G0 H0 D DH) (he : PySem.W.exmOne X.K cls cv = some true) {x f : Str} {dd : PyData} (hx : ExnOk X.K X.mg G cls d (.fld x f dd))
    (h : ∀ (a dx : Addr) (oe : Obj) (pn : List (Addr × Obj)), Zc cls (some dx) oe → (∃ vs, oe.data = .fields vs) → RunSs (X.suite a ((a, oe) :: pn)) B suite (Γ.set i (.exn a dx f dd)) (D.gone i)) : wMA X.K i Wout DH ((cv, tSui X suite) :: l) cls d σ H := by
  obtain ⟨_, dx, v, rfl, hg, hv⟩ := hx
  refine ⟨true, he, fun _ a na oe pn hz hf => ?_, fun z => by cases z⟩
  exact (h a dx oe pn hz hf).run G0 H0 _ G H _ (hs.asg (Grow.refl hs.gr.ok) (show Res X.K B H G H (.ref a) (.exn a dx f dd) from ⟨⟨rfl, v, hg, hv⟩, fun z => by cases z⟩) i) (hd.gone i)
theorem wMA_past {Wout : WX} {cv cls : Value} {d : Option Addr} {ts : Addr → Value → Option Addr → TS} {l : List (Value × (Addr → Value → Option Addr → TS))} (he : PySem.W.exmOne X.K cls cv = some false) (h : wMA X.K i Wout DH l cls d σ H) : wMA X.K i Wout DH ((cv, ts) :: l) cls d σ H :=
  ⟨false, he, (fun z => by cases z), fun _ => h⟩
/-- try: x(e, ..) except ..; x holds the def f -/
theorem rs_try {Wout : WX} {j k0 k1 : Nat} {x : Str} {f : Addr} {fd : FuncData} {ps : List Str} {pre : FSX} {ke : Exn → Prop} {h₀ : ExceptHandler} {hds : List ExceptHandler} {l : List (Value × (Addr → Value → Option Addr → TS))} (hs : X.stack = X.env :: X.outer) (hf : X.env.frame = some X.env.locals) (hN : X.N.Nodup) (hi : X.N[i]? = some n) (hln : X.env.kindOf n = some .local) (tk : Takes X Wout)
    (hh : HdsA X n (h₀ :: hds) l) (hgj : Γ[j]? = some (.rv (.ref f))) (F : FnOk X.prog X.w X.K X.mg X.base (L2.CX X.prog X.w) k0 f fd ps (SpX X.K X.mg pre)) (hk : PySem.W.keepIn X.K (.ref f) = true) (hb : Binds X.K fd ps []) (hr : Room k1 X.A) (hle : k0 ≤ k1)
    (ha : ∀ (pn : List (Addr × Obj)) (xe : Value → Shared → Prop), EvA (X.tr pn xe) B (e :: es) Γ fun rs => pre rs (fun _ => D.nx Γ) ke)
    (hc : ∀ ex, ke ex → ∀ cls dx G0 H0 σ G H DH, StOk X.K B G0 H0 σ G H Γ → ExnOk X.K X.mg G cls dx ex → DnOk X.K B G0 H0 D DH → wMA X.K i Wout DH l cls dx σ H)
    (hN2 : X.N[j]? = some x := by rfl) (hv : Vis X.env.scope x := by first | exact Or.inl rfl | exact Or.inr (Or.inl rfl) | exact Or.inr (Or.inr rfl))
    (hsw : swapsWith (.Call (.Name x p1) (e :: es) [] p) none p2.line X.env = pure false := by rfl) (hdb : (x == ("__debug__" : Str)) = false := by decide) (hcd : (x == ("__classdict__" : Str)) = false := by decide) (he : starEach (e :: es) X.env = (false, eval e X.env) :: starEach es X.env := by rfl) (hpl : (backTo p (starEach es X.env)).any (·.1) = false := by rfl) :
    RunS X B (.Try [.Expr (.Call (.Name x p1) (e :: es) [] p) p2] (h₀ :: hds) [] [] pos) Γ D :=
  ⟨fun G0 H0 σ G H DH s d => tS_of (ps_try_ma hs hf hN hi hln tk (tb := fun W D σ H => ∀ pn xe, Takes (X.tr pn xe) W → PassesOwn (model X.prog X.w) X.A X.env xe → tSs (X.tr pn xe) [.Expr (.Call (.Name x p1) (e :: es) [] p) p2] D σ H)
    (fun W pn xe tk po => ⟨fun pins s σ H Q I h => h pn xe tk po pins s I⟩) hh) (fun pn xe tk2 po => by
      obtain ⟨v, e1, e2⟩ := s.en.ok j _ hgj (by simp)
      have e3 : v = .ref f := e2
      subst e3
      refine tSs_of (pss_one (ps_callX (X := X.tr pn xe) tk2 F (hr.mono hle) hN2 hv hk hb pa_self hsw hdb hcd he hpl)) ⟨e1, ?_⟩
      exact (ha pn xe).run σ G H _ s.gr.ok s.en fun vs G1 H1 rs g ao pr => ⟨B, G1, rs, _, ke, s.en.tt, g.ok, ao, pr, fun v G' H' r g2 re kr => d.nx Γ σ G' H' (s.grow (g.trans g2)) kr, fun cls dx G' H' e g2 ex kx => hc e kx cls dx G0 H0 σ G' H' DH (s.grow (g.trans g2)) ex d⟩)⟩
/-! ### in a suite -/
variable {a dx : Addr} {oe : Obj} {pn : List (Addr × Obj)} {C : Addr} {f : Str} {d : PyData} {k : Sl → Prop}
/-- e.f of the caught exception -/
theorem ee_exf (j : Nat) {x : Str} (T : XfC X.K C) (hno : PySem.W.findIn X.K (.ref C) f = some none) (hz : Zc (.ref C) (some dx) oe) (hf : ∃ vs, oe.data = .fields vs) (hg : Γ[j]? = some (.exn a dx f d)) (q : k (.d d)) (hN : X.N[j]? = some x := by rfl) (hv : Vis X.env.scope x := by first | exact Or.inl rfl | exact Or.inr (Or.inl rfl) | exact Or.inr (Or.inr rfl))
    (hd : (x == ("__debug__" : Str)) = false := by decide) (hcd : (x == ("__classdict__" : Str)) = false := by decide) (hb : attributeBase (.Name x p1) f X.env (eval (.Name x p1) X.env) = eval (.Name x p1) X.env := by rfl) : EvE (X.suite a ((a, oe) :: pn)) B (.Attribute (.Name x p1) f pos) Γ k :=
  ⟨fun σ G H Q o en cont => by
    obtain ⟨v, e, e2, u, hu, hd2⟩ := en.ok j _ hg (by simp)
    exact tE_of (pe_xf T hno hz hf (pe_var (X := X.suite a ((a, oe) :: pn)) hN hv hd hcd) hb) ⟨v, e, e2, rfl, dx, [(f, u)], u, rfl, o.ex _ _ hu, by simp [List.lookup], cont u G H _ (Grow.refl o) (Res.dat hd2) q⟩⟩
/-- isinstance(e, y) of the caught exception -/
theorem ee_exis (j : Nat) {x y : Str} {b : Bool} {cv : Value} {c : V} {p4 : Pos} (EC : ExcC X.K C) (hz : Zc (.ref C) (some dx) oe) (hf : ∃ vs, oe.data = .fields vs) (hm : X.mg "isinstance" = none) (hg : Γ[j]? = some (.exn a dx f d)) (hcv : ∀ u, RelV c u → u = cv) (hy : PE (X.suite a ((a, oe) :: pn)) (.Name y p4) (L2.tC c)) (hki : PySem.W.kitOne X.K (.ref C) cv = some b) (q : k (.d (.bool b)))
    (hN : X.N[j]? = some x := by rfl) (hv : Vis X.env.scope x := by first | exact Or.inl rfl | exact Or.inr (Or.inl rfl) | exact Or.inr (Or.inr rfl)) (hgl : Gl X "isinstance" := by rfl)
    (hd : (x == ("__debug__" : Str)) = false := by decide) (hcd : (x == ("__classdict__" : Str)) = false := by decide)
    (he : starEach [.Name x p2, .Name y p4] X.env = (false, eval (.Name x p2) X.env) :: starEach [.Name y p4] X.env := by rfl) (he2 : starEach [.Name y p4] X.env = (false, eval (.Name y p4) X.env) :: starEach [] X.env := by rfl) (hpl : (backTo pos (starEach [.Name y p4] X.env)).any (·.1) = false := by rfl) :
    EvE (X.suite a ((a, oe) :: pn)) B (.Call (.Name "isinstance" p1) [.Name x p2, .Name y p4] [] pos) Γ k :=
  ⟨fun σ G H Q o en cont => by
    obtain ⟨v, e, e2, u, hu, hd2⟩ := en.ok j _ hg (by simp)
    refine tE_of (pe_callB (X := X.suite a ((a, oe) :: pn)) (call_isX EC hz hf) hgl hm (by exact boot_isinstance) (pa_cons (pe_var hN hv hd hcd) (pa_cons hy pa_nil he2) he) (by decide) (by decide) he hpl) ⟨v, e, ?_⟩
    exact ⟨c, cv, b, by rw [e2], hcv, fun dx' hx => by cases hx; exact ⟨_, o.ex _ _ hu⟩, hki, cont (.bl b) G H _ (Grow.refl o) (Res.dat (.bl b)) q⟩⟩
end
end Ab
/-! facts of own exception classes, as Booleans over the head -/
namespace Ab
open PySem PySem.Spec PyProof.Rows L2
def oexB (K : PySem.W.Frag) (C : Addr) : Bool := (match K.lookup C with
  | some ⟨.type "type", _, .cls cd, sl⟩ => (match cd.mro, sl.toList with
    | .ref C' :: bm, [_, _, _, _, some (.builtin n), _] => C' == C && n == "ValueError.__new__" && !cd.hasDel && cd.hasDict && PySem.HandSPX.refsVE bm
    | _, _ => false)
  | _ => false) && (He.eqO (PySem.W.findIn K (.ref C) "__setattr__") (some (some (.builtin "object.__setattr__"))) && (decide (PySem.W.subIn K (.ref C) (.type "BaseException") = some true) && (decide (PySem.W.typeIn K (.ref C) = some (.type "type")) && PySem.W.keepIn K (.ref C))))
theorem oexB_ok {K : PySem.W.Frag} {C : Addr} (h : oexB K C = true) : OexC K C := by
  obtain ⟨q, h⟩ := He.ba h
  obtain ⟨h1, h⟩ := He.ba h
  obtain ⟨h2, h⟩ := He.ba h
  obtain ⟨h3, h4⟩ := He.ba h
  refine ⟨?_, He.eqO_ok h1, of_decide_eq_true h2, of_decide_eq_true h3, h4⟩
  split at q
  · rename_i dd cd sl ho
    split at q
    · rename_i C' bm k0 k1 k2 k3 n k5 hm hs
      simp only [Bool.and_eq_true, beq_iff_eq, Bool.not_eq_true'] at q
      obtain ⟨⟨⟨⟨rfl, rfl⟩, hdel⟩, hdct⟩, hr⟩ := q
      obtain ⟨nm, bs, mro, ns, qn, hd, sn, sub, ab, col, del⟩ := cd
      dsimp only at hm hdel hdct
      subst hm hdel hdct
      have hsl : sl = #[k0, k1, k2, k3, some (.builtin "ValueError.__new__"), k5] := by
        obtain ⟨l⟩ := sl
        simp only at hs
        rw [hs]
      subst hsl
      exact ⟨nm, qn, ns, bs, bm, sn, sub, ab, col, dd, k0, k1, k2, k3, k5, ho, hr⟩
    · cases q
  · cases q
def excB (K : PySem.W.Frag) (D : Addr) : Bool := He.eqO (PySem.W.findIn K (.ref D) "__getattribute__") (some (some (.builtin "BaseException.__getattribute__"))) && (He.eqO (PySem.W.findIn K (.ref D) "__getattr__") (some none) && (decide (PySem.W.subIn K (.ref D) (.type "BaseException") = some true) && (PySem.W.hasDictIn K D &&
  (He.eqO (PySem.W.findIn K (.ref D) "__class__") (some (some (.builtin "object.__class__"))) && (He.eqO (PySem.W.specialIn K (.builtin "object.__class__") "__get__") (some (some (.builtin "getset_descriptor.__get__"))) && (decide (PySem.W.takesIn K (.builtin "object.__class__") = some true) && decide (PySem.W.mroIn K D (.type "object") = some true)))))))
theorem excB_ok {K : PySem.W.Frag} {D : Addr} (h : excB K D = true) : ExcC K D ∧ XfC K D := by
  obtain ⟨h1, h⟩ := He.ba h
  obtain ⟨h2, h⟩ := He.ba h
  obtain ⟨h3, h⟩ := He.ba h
  obtain ⟨h4, h⟩ := He.ba h
  obtain ⟨h5, h⟩ := He.ba h
  obtain ⟨h6, h⟩ := He.ba h
  obtain ⟨h7, h8⟩ := He.ba h
  exact ⟨⟨He.eqO_ok h1, He.eqO_ok h2, of_decide_eq_true h3, h4, He.eqO_ok h5, He.eqO_ok h6, of_decide_eq_true h7, of_decide_eq_true h8⟩, ⟨He.eqO_ok h1, He.eqO_ok h2, of_decide_eq_true h3, h4⟩⟩
abbrev gA (K : PySem.W.Frag) (x : Str) : Addr := He.ga K x
abbrev iA (K : PySem.W.Frag) (x : Str) : Addr := He.fAd K (x, some ("__init__" : Str))
def xclsB (K : PySem.W.Frag) (x f : Str) : Bool := oexB K (gA K x) && (excB K (gA K x) && (He.eqO (PySem.W.findIn K (.ref (gA K x)) "__init__") (some (some (.ref (iA K x)))) && (decide (PySem.W.typeIn K (.ref (iA K x)) = some (.type "function")) && He.eqO (PySem.W.findIn K (.ref (gA K x)) f) (some none))))
theorem xclsB_ok {K : PySem.W.Frag} {mg : Str → Option Value} {x f : Str} (h : xclsB K x f = true) (hm : mg x = some (.ref (gA K x))) : XCls K mg x f (gA K x) (iA K x) := by
  obtain ⟨h1, h⟩ := He.ba h
  obtain ⟨h2, h⟩ := He.ba h
  obtain ⟨h3, h⟩ := He.ba h
  obtain ⟨h4, h5⟩ := He.ba h
  exact ⟨hm, oexB_ok h1, He.eqO_ok h3, of_decide_eq_true h4, He.eqO_ok h5, (excB_ok h2).2, (excB_ok h2).1⟩
def seB (K : PySem.W.Frag) (S : Addr) : Bool := PySem.W.readsIn K S (.type "type") && (He.eqO (PySem.W.specialIn K (.ref S) "__getattribute__") (some (some (.builtin "type.__getattribute__"))) && (match PySem.W.findCls K (.ref S) (.type "type") "__init__" with
  | some (.val (.builtin n)) => decide (n = "ValueError.__init__")
  | _ => false))
theorem seB_ok {K : PySem.W.Frag} {S : Addr} (h : seB K S = true) : SeC K S := by
  obtain ⟨h1, h⟩ := He.ba h
  obtain ⟨h2, h3⟩ := He.ba h
  refine ⟨h1, He.eqO_ok h2, ?_⟩
  split at h3
  · rename_i n e
    rw [e, of_decide_eq_true h3]
  · cases h3
theorem boot_VE : bootBuiltins ("ValueError" : Str) = some (.type "ValueError") := by decide +kernel
def exmB (K : PySem.W.Frag) (x y : Str) (b : Bool) : Bool := decide (PySem.W.exmOne K (.ref (gA K x)) (.ref (gA K y)) = some b)
def kitB' (K : PySem.W.Frag) (x y : Str) (b : Bool) : Bool := decide (PySem.W.kitOne K (.ref (gA K x)) (.ref (gA K y)) = some b)
def kitVE (K : PySem.W.Frag) (x : Str) : Bool := decide (PySem.W.kitOne K (.ref (gA K x)) (.type "ValueError") = some true)
/-- what law k11 leans on -/
def exc11 (K : PySem.W.Frag) : Bool := xclsB K "NoDeed" "at" && (seB K (gA K "SeatError") && (exmB K "NoDeed" "NoDeed" true && (kitB' K "NoDeed" "TooMany" false && kitVE K "NoDeed")))
structure Exc11 (K : PySem.W.Frag) (mg : Str → Option Value) : Prop where
  nd : XCls K mg "NoDeed" "at" (gA K "NoDeed") (iA K "NoDeed")
  se : SeC K (gA K "SeatError")
  gs : mg "SeatError" = some (.ref (gA K "SeatError"))
  gt : mg "TooMany" = some (.ref (gA K "TooMany"))
  gv : mg "ValueError" = none
  em : PySem.W.exmOne K (.ref (gA K "NoDeed")) (.ref (gA K "NoDeed")) = some true
  kt : PySem.W.kitOne K (.ref (gA K "NoDeed")) (.ref (gA K "TooMany")) = some false
  kv : PySem.W.kitOne K (.ref (gA K "NoDeed")) (.type "ValueError") = some true
theorem exc11_ok {K : PySem.W.Frag} {mg : Str → Option Value} (h : exc11 K = true) (hn : mg "NoDeed" = some (.ref (gA K "NoDeed"))) (hs : mg "SeatError" = some (.ref (gA K "SeatError"))) (ht : mg "TooMany" = some (.ref (gA K "TooMany"))) (hv : mg "ValueError" = none) : Exc11 K mg := by
  obtain ⟨h1, h⟩ := He.ba h
  obtain ⟨h2, h⟩ := He.ba h
  obtain ⟨h3, h⟩ := He.ba h
  obtain ⟨h4, h5⟩ := He.ba h
  exact ⟨xclsB_ok h1 hn, seB_ok h2, hs, ht, hv, of_decide_eq_true h3, of_decide_eq_true h4, of_decide_eq_true h5⟩
/-! ### the head's facts, the table of the interpreter's own statics among them -/
def asY (g : Addr → Option Obj) (n : Nat) : List Addr := He.asD g n ++ [cStatics]
def obsY (n : Nat) (fa : List He.Fa) (fn : List He.DefD) (ts : List He.Tab) (tf : List He.Defn) (ex : PySem.W.Frag → Bool) (g : Addr → Option Obj) : He.AlX := (He.obsT fa fn ts (He.frT g (asY g n)), ex (He.frT g (asY g n)) && He.tabsB g tf (He.frT g (asY g n)))
theorem saysY_of {n : Nat} {fa : List He.Fa} {fn : List He.DefD} {ts : List He.Tab} {tf : List He.Defn} {ex : PySem.W.Frag → Bool} {w : World} {h : Heap} (e : obsY n fa fn ts tf ex h.get? = He.valX fn ts w) : He.SaysX fa fn ts tf ex w h (He.frT h.get? (asY h.get? n)) := by
  have e1 : He.obsT fa fn ts (He.frT h.get? (asY h.get? n)) = He.valT fn ts w := congrArg (fun z : He.AlX => z.1) e
  have e2 : (ex (He.frT h.get? (asY h.get? n)) && He.tabsB h.get? tf (He.frT h.get? (asY h.get? n))) = true := congrArg (fun z : He.AlX => z.2) e
  obtain ⟨h1, h2⟩ := He.ba e2
  have key : ∀ p ∈ tf, PySem.W.codeHdIn (He.frT h.get? (asY h.get? n)) (He.cT (He.frT h.get? (asY h.get? n)) p).1 (He.cT (He.frT h.get? (asY h.get? n)) p).2 = true ∧ ∃ o, h.get? (He.cT (He.frT h.get? (asY h.get? n)) p).2 = some o ∧ He.emptyTab o = true := fun p hp => by
    obtain ⟨h3, h4⟩ := He.ba (List.all_eq_true.mp h2 p hp)
    refine ⟨h3, ?_⟩
    cases q : h.get? (He.cT (He.frT h.get? (asY h.get? n)) p).2 with
    | none =>
      rw [q] at h4
      cases h4
    | some o =>
      rw [q] at h4
      exact ⟨o, rfl, h4⟩
  exact ⟨e1, h1, fun p hp => (key p hp).1, fun p hp => by
    obtain ⟨_, o, q, z⟩ := key p hp
    exact He.frT_none q z, fun p hp => by
    obtain ⟨_, o, q, z⟩ := key p hp
    rw [q, He.emptyTab_eq z]⟩
def hookY (n : Nat) (fa : List He.Fa) (fn : List He.DefD) (ts : List He.Tab) (tf : List He.Defn) (ex : PySem.W.Frag → Bool) : PySem.W.Hook where
  α := He.AlX
  obs := fun s => obsY n fa fn ts tf ex s.heap.get?
  val := fun w => He.valX fn ts w
  says := fun w h => ∃ K : PySem.W.Frag, K.In h ∧ He.SaysX fa fn ts tf ex w h K
  of := fun _ _ e => ⟨_, He.frT_in, saysY_of e⟩
  keeps := fun _ _ _ ⟨K, hK, c⟩ k => ⟨K, PySem.W.Frag.In.keeps hK k, ⟨c.t, c.more, c.hd, c.out, fun p hp => k _ _ (c.empty p hp)⟩⟩
theorem obsY_eq {n : Nat} {fa : List He.Fa} {fn : List He.DefD} {ts : List He.Tab} {tf : List He.Defn} {ex : PySem.W.Frag → Bool} {g : Addr → Option Obj} {s : Shared} (h : ∀ a, g a = s.heap.get? a) : obsY n fa fn ts tf ex g = (hookY n fa fn ts tf ex).obs s := by
  have e : g = s.heap.get? := funext h
  rw [e] <;> rfl
end Ab
/-! list(x), xs.pop(), xs[i] = e, xs * n, isinstance(x, (tuple, list)); defs as values; calls of defs that may let out exceptions -/
namespace Ab
open PySem PySem.Spec L2
section
variable {X : Cx} {B : Bg} {Γ : List Sl} {D : Dn} {st : Stmt} {rest a b body : List Stmt} {e c e1 e2 o i : Expr} {es : List Expr} {pos p1 : Pos} {k : Sl → Prop}
/-- list(xs) -/
theorem ee_listL (hm : X.mg "list" = none) (h : EvL X B e Γ fun ds => k (.ol ds)) (hg : Gl X "list" := by rfl) (he : starEach [e] X.env = (false, eval e X.env) :: starEach [] X.env := by rfl) (hpl : (backTo pos (starEach [] X.env)).any (·.1) = false := by rfl) : EvE X B (.Call (.Name "list" p1) [e] [] pos) Γ k :=
  ee_ct1 call_list_of hm boot_list (fun σ G H Q ok en cont => h.run σ G H _ ok en fun p xs G1 G' H' ds g e1 o1 sq da q => ⟨p, xs, rfl, .inl (sqL_ext o1.ex sq), fun z hz =>
    cont _ G' _ (.ol ds) (g.trans (Grow.newOwn g.ok hz _)) ⟨⟨z, xs, rfl, g.ok.notfree hz, g.ok.ex.free hz, upd_same, da⟩, fun _ p e => by cases e; exact g.free hz⟩ q⟩) (by decide) (by decide) hg he hpl
/-- list(t) -/
theorem ee_listT (hm : X.mg "list" = none) (h : EvE X B e Γ (Sl.tup fun ds => k (.ol ds))) (hg : Gl X "list" := by rfl) (he : starEach [e] X.env = (false, eval e X.env) :: starEach [] X.env := by rfl) (hpl : (backTo pos (starEach [] X.env)).any (·.1) = false := by rfl) : EvE X B (.Call (.Name "list" p1) [e] [] pos) Γ k :=
  ee_ct1 call_list_of hm boot_list (fun σ G H Q ok en cont => h.run σ G H _ ok en fun v G1 H1 r g re kr => by
    obtain ⟨p, xs, ds, rfl, sq, da, q⟩ := tup_inv re kr
    exact ⟨p, xs, rfl, .inr (SqT.ext g.ok.ex sq).up, fun z hz =>
      cont _ G1 _ (.ol ds) (g.trans (Grow.newOwn g.ok hz _)) ⟨⟨z, xs, rfl, g.ok.notfree hz, g.ok.ex.free hz, upd_same, da⟩, fun _ p e => by cases e; exact g.free hz⟩ q⟩) (by decide) (by decide) hg he hpl
/-- [..] * n -/
theorem ee_mulL (h : EvE X B e1 Γ fun r => ∃ ds, r = .ol ds ∧ EvE X B e2 Γ (Sl.int fun n => 0 ≤ n ∧ n ≤ 100 ∧ ds.length ≤ 100 ∧ k (.ol (List.replicate n.toNat ds).flatten))) : EvE X B (.BinOp e1 .Mult e2 pos) Γ k :=
  ee_bop op_rep ⟨fun σ G H Q ok en cont => h.run σ G H _ ok en fun v G1 H1 r g re kr => by
    obtain ⟨ds, rfl, q1⟩ := kr
    obtain ⟨⟨p, xs, rfl, nb, z, hp, da⟩, fr⟩ := re
    refine q1.run σ G1 H1 _ g.ok (en.grow g) fun w G2 H2 r2 g2 re2 k2 => ?_
    obtain ⟨n, rfl, h0, h1, h2, q⟩ := int_inv re2 k2
    have g02 := g.trans g2
    have da2 := DpAll.ext g2.g _ _ da
    have dr : ∀ m : Nat, DpAll X.K G2 (List.replicate m xs).flatten (List.replicate m ds).flatten := fun m => by
      induction m with
      | zero => exact .nil
      | succ m ih => rw [List.replicate_succ, List.replicate_succ, List.flatten_cons, List.flatten_cons]; exact DpAll.append da2 ih
    refine ⟨p, n, xs, rfl, rfl, g2.h _ _ nb hp, by omega, by omega, ?_, fun y hy => ?_⟩
    · rw [DpAll.length da]
      have : ds.length * n.toNat ≤ 100 * 100 := Nat.mul_le_mul h2 (by omega)
      exact Nat.le_trans this (by decide)
    · exact cont _ G2 _ (.ol _) (g02.trans (Grow.newOwn g2.ok hy _)) ⟨⟨y, _, rfl, g2.ok.notfree hy, g2.ok.ex.free hy, upd_same, dr _⟩, fun _ p e => by cases e; exact g02.free hy⟩ q⟩
def isSeq (d : PyData) : Bool := isTup d || isLst d
theorem kitc_of {K : PySem.W.Frag} {d : PyData} {T : String} {r : Bool} (h : kitB (tyN d) T = some r) : PySem.W.kitOne K (.type (tyN d)) (.type T) = some r := kit_ty h
/-- isinstance(e, (tuple, list)) -/
theorem ee_isTL {pa pb pt : Pos} {kk : Nat} (hm : X.mg "isinstance" = none) (hT : X.mg "tuple" = none) (hL : X.mg "list" = none) (h : EvV X B e Γ fun d => k (.d (.bool (isSeq d)))) (hg : Gl X "isinstance" := by rfl) (hgT : Gl X "tuple" := by rfl) (hgL : Gl X "list" := by rfl)
    (he : starEach [e, .Tuple [.Name "tuple" pa, .Name "list" pb] kk pt] X.env = (false, eval e X.env) :: starEach [.Tuple [.Name "tuple" pa, .Name "list" pb] kk pt] X.env := by rfl) (he2 : starEach [.Tuple [.Name "tuple" pa, .Name "list" pb] kk pt] X.env = (false, eval (.Tuple [.Name "tuple" pa, .Name "list" pb] kk pt) X.env) :: starEach [] X.env := by rfl)
    (he3 : starEach [.Name "tuple" pa, .Name "list" pb] X.env = (false, eval (.Name "tuple" pa) X.env) :: starEach [.Name "list" pb] X.env := by rfl) (he4 : starEach [.Name "list" pb] X.env = (false, eval (.Name "list" pb) X.env) :: starEach [] X.env := by rfl)
    (hpl : (backTo pos (starEach [.Tuple [.Name "tuple" pa, .Name "list" pb] kk pt] X.env)).any (·.1) = false := by rfl) :
    EvE X B (.Call (.Name "isinstance" p1) [e, .Tuple [.Name "tuple" pa, .Name "list" pb] kk pt] [] pos) Γ k :=
  ee_cb2 call_isiT hm boot_isinstance (fun σ G H Q ok en cont => h.run σ G H _ ok en fun v G1 G' H' d g e1 o1 dp q =>
    tE_of (pe_tup (pa_cons (pe_bltn (v := .ty "tuple") hgT hT boot_tuple rfl) (pa_cons (pe_bltn (v := .ty "list") hgL hL boot_list rfl) pa_nil he4) he3)) ⟨by decide, fun p hp => by
      have gn := Grow.new o1 hp (.tup [.ty "tuple", .ty "list"])
      have nd : d ≠ .dict [] := by rintro rfl; cases dp
      have h1 : PySem.W.kitOne X.K (.type (tyN d)) (.type "tuple") = some (isTup d) := kit_ty (kit_tup d)
      have h2 : PySem.W.kitOne X.K (.type (tyN d)) (.type "list") = some (isLst d) := kit_ty (kit_lst d)
      refine ⟨v, p, [.ty "tuple", .ty "list"], .type (tyN d), [.type "tuple", .type "list"], isSeq d, rfl, upd_same, .cons (.ty _) (.cons (.ty _) .nil), ty_of (Dp.ext gn.ok.ex _ _ (Dp.ext gn.g _ _ dp)), ?_, ?_⟩
      · unfold PySem.W.kitAny
        rw [h1]
        show (match (some (isTup d) : Option Bool) with | some true => some true | some false => PySem.W.kitAny X.K (.type (tyN d)) [.type "list"] | none => none) = some (isSeq d)
        unfold isSeq
        cases isTup d with
        | true => rfl
        | false =>
          dsimp only
          unfold PySem.W.kitAny
          rw [h2]
          cases isLst d with
          | true => rfl
          | false => rfl
      · exact cont _ _ _ _ (g.trans (Grow.new g.ok hp (.tup [.ty "tuple", .ty "list"]))) (Res.dat (.bl _)) q⟩) (by decide) (by decide) hg he he2 hpl
/-- xs.pop() -/
theorem rs_pop (i : Nat) {x nm : Str} {p1 p2 p3 : Pos} {ds : List PyData} (hg : Γ[i]? = some (.ol ds)) (hne : ds ≠ []) (q : D.nx (Γ.set i (.ol ds.dropLast))) (hnm : nm = "pop" := by rfl) (hN : X.N[i]? = some x := by rfl) (hv : Vis X.env.scope x := by first | exact Or.inl rfl | exact Or.inr (Or.inl rfl) | exact Or.inr (Or.inr rfl))
    (hd : (x == ("__debug__" : Str)) = false := by decide) (hcd : (x == ("__classdict__" : Str)) = false := by decide)
    (hbase : attributeBase (.Name x p1) nm X.env (eval (.Name x p1) X.env) = eval (.Name x p1) X.env := by rfl) (hline : (p2.endLine == p3.line) = true := by rfl)
    (hsw : swapsWith (.Call (.Attribute (.Name x p1) nm p2) [] [] p3) none pos.line X.env = pure false := by rfl) : RunS X B (.Expr (.Call (.Attribute (.Name x p1) nm p2) [] [] p3) pos) Γ D := by
  subst hnm
  refine ⟨fun G0 H0 σ G H DH s d => tS_of (ps_expr (pe_bm0 PySem.F.plainAttrs_list PySem.F.slot_list_pop PySem.F.type_list_pop mt_pop (pe_var hN hv hd hcd) hbase hline) hsw) ?_⟩
  obtain ⟨v, e1, p, xs, ev, nb, z, hp, da⟩ := s.en.ok i _ hg (by simp)
  subst ev
  have hl := DpAll.length da
  have hn : 0 < ds.length := List.length_pos_iff.mpr hne
  have dl : ∀ {xs : List V} {ds : List PyData}, DpAll X.K G xs ds → DpAll X.K G xs.dropLast ds.dropLast := fun {xs ds} h => by
    rw [List.dropLast_eq_take, List.dropLast_eq_take, DpAll.length h]
    exact DpAll.take _ h
  refine ⟨_, e1, .inl ⟨rfl, xs, L2.SqL.of hp⟩, p, xs, xs[xs.length - 1]'(by omega), rfl, rfl, hp, List.getElem?_eq_getElem (by omega), ?_⟩
  refine d.nx _ σ G _ ⟨⟨s.gr.g, fun a o na e => ?_, s.gr.n, s.gr.ok.mut nb z _⟩, ?_, fun j t q2 e2 o2 e3 => ?_⟩ q
  · have hf := s.fr i _ p hg rfl e1
    rw [upd_ne (ne_of_none e hf)]
    exact s.gr.h a o na e
  · exact s.en.mut (s' := .ol ds.dropLast) hg rfl e1 ⟨p, _, rfl, nb, z, upd_same, dl da⟩ rfl
  · by_cases hj : i = j
    · subst hj
      have e4 := e1
      rw [e3] at e4
      cases e4
      exact s.fr i _ _ hg rfl e1
    · rw [List.getElem?_set_ne hj] at e2
      exact s.fr j t q2 e2 o2 e3
theorem DpAll.set {K : PySem.W.Frag} {G : Hp} : ∀ {xs : List V} {ds : List PyData} (n : Nat) {v : V} {d : PyData}, DpAll K G xs ds → Dp K G v d → DpAll K G (xs.set n v) (ds.set n d)
  | _, _, _, _, _, .nil, _ => .nil
  | _, _, 0, _, _, .cons _ t, h => .cons h t
  | _, _, n + 1, _, _, .cons a t, h => .cons a (DpAll.set n t h)
/-- xs[y] = e, xs owned in slot i, y a local name -/
theorem rs_ixset (i j : Nat) {x y : Str} {p2 p3 p4 : Pos} {ds : List PyData} {n : Nat} (hg : Γ[i]? = some (.ol ds)) (hgj : Γ[j]? = some (.d (.int (n : Int)))) (hn : n < ds.length) (h : EvE X B e Γ (Sl.dat fun d => D.nx (Γ.set i (.ol (ds.set n d))))) (hN : X.N[i]? = some x := by rfl) (hNj : X.N[j]? = some y := by rfl)
    (hv : Vis X.env.scope x := by first | exact Or.inl rfl | exact Or.inr (Or.inl rfl) | exact Or.inr (Or.inr rfl)) (hvj : Vis X.env.scope y := by first | exact Or.inl rfl | exact Or.inr (Or.inl rfl) | exact Or.inr (Or.inr rfl))
    (hd : (x == ("__debug__" : Str)) = false := by decide) (hcd : (x == ("__classdict__" : Str)) = false := by decide) (hdj : (y == ("__debug__" : Str)) = false := by decide) (hcdj : (y == ("__classdict__" : Str)) = false := by decide)
    (hs : swapsWithSole [.Subscript (.Name x p2) (.Name y p3) p4] e pos.line X.env = pure false := by rfl) (hw : swappedStores [.Subscript (.Name x p2) (.Name y p3) p4] e X.env = pure none := by rfl)
    (h1 : (assignEach [.Subscript (.Name x p2) (.Name y p3) p4] X.env).map (·.2) = [assign (.Subscript (.Name x p2) (.Name y p3) p4) X.env] := by rfl)
    (ha : ∀ v, assign (.Subscript (.Name x p2) (.Name y p3) p4) X.env v = (do
      let ov ← holding [v] (eval (.Name x p2) X.env)
      let iv ← holding [v, ov] (eval (.Name y p3) X.env)
      standAt p4
      holding [v, ov, iv] (setItem ov iv v)
      release [v, ov, iv] []) := by intro _; rfl) : RunS X B (.Assign [.Subscript (.Name x p2) (.Name y p3) p4] e pos) Γ D :=
  ⟨fun G0 H0 σ G H DH s d => tS_of (ps_asg pe_self (pg_sub (pe_var hN hv hd hcd) (pe_var hNj hvj hdj hcdj) set_list ha) hs hw h1) ((EvD.of h).run σ G H _ s.gr.ok s.en fun w G1 H1 dd g dw kd => by
    obtain ⟨v, e1, p, xs, ev, nb, z, hp, da⟩ := s.en.ok i _ hg (by simp)
    subst ev
    obtain ⟨vj, ej, hj⟩ := s.en.ok j _ hgj (by simp)
    have ej2 : vj = .int (n : Int) := by cases hj; rfl
    subst ej2
    have s1 := s.grow g
    have z1 := g.n _ _ hp z
    have hp1 := g.h _ _ nb hp
    have hl := DpAll.length da
    have hix : ixN xs.length (n : Int) = some n := by
      unfold ixN
      rw [if_pos (by omega), if_pos (by omega)]
      rfl
    refine ⟨_, e1, _, ej, p, xs, n, n, rfl, rfl, hp1, hix, d.nx _ σ G1 _ ⟨⟨s1.gr.g, fun a o na e => ?_, s1.gr.n, s1.gr.ok.mut nb z1 _⟩, ?_, fun j t q e2 o2 e3 => ?_⟩ kd⟩
    · have hf := s.fr i _ p hg rfl e1
      rw [upd_ne (ne_of_none e hf)]
      exact s1.gr.h a o na e
    · exact s1.en.mut (s' := .ol (ds.set n dd)) hg rfl e1 ⟨p, _, rfl, nb, z1, upd_same, DpAll.set n (DpAll.ext g.g _ _ da) dw⟩ rfl
    · by_cases hj : i = j
      · subst hj
        have e4 := e1
        rw [e3] at e4
        cases e4
        exact s.fr i _ _ hg rfl e1
      · rw [List.getElem?_set_ne hj] at e2
        exact s.fr j t q e2 o2 e3)⟩
/-- a def as a value -/
theorem ee_gdef {x : Str} {f : Addr} (hm : X.mg x = some (.ref f)) (q : k (.rv (.ref f))) (hg : Gl X x := by rfl) (hd : (x == ("__debug__" : Str)) = false := by decide) : EvE X B (.Name x pos) Γ k :=
  ⟨fun σ G H Q o en cont => tE_of (pe_glob (v := .ref f) hg hm rfl hd) (cont _ G H (.rv (.ref f)) (Grow.refl o) ⟨rfl, fun z => by cases z⟩ q)⟩
/-- a def that lets nothing out here -/
theorem ee_callX {n k0 : Nat} {x : Str} {ps : List Str} {pre : FSX} (F : HasX X.prog X.w X.K X.mg X.base n x ps pre) (hr : Room k0 X.A) (h : EvA X B (e :: es) Γ fun rs => pre rs k fun _ => False) (hn : n ≤ k0 := by decide) (hg : Gl X x := by rfl)
    (hdb : (x == ("__debug__" : Str)) = false := by decide) (he : starEach (e :: es) X.env = (false, eval e X.env) :: starEach es X.env := by rfl) (hpl : (backTo pos (starEach es X.env)).any (·.1) = false := by rfl) : EvE X B (.Call (.Name x p1) (e :: es) [] pos) Γ k := by
  obtain ⟨f, fd, F, hm, hk, hb⟩ := F
  have hp : Passes (L2.CX X.prog X.w) X L2.E0 := fun pins σ H s e s' I ⟨_, _, _, _, _, _, _, _, _, _, _, _, h⟩ => h.elim
  exact ⟨fun σ G H Q ok en cont => tE_of (pe_call F (hr.mono hn) hg hm hk hb .nil hp pa_self hdb he hpl) (h.run σ G H _ ok en fun vs G1 H1 rs g ao pr => by
    show SpX X.K X.mg pre (vs ++ []) H1 Q _
    rw [List.append_nil]
    exact ⟨B, G1, rs, k, _, en.tt, g.ok, ao, pr, fun v G2 H2 r g2 re kr => cont v G2 H2 r (g.trans g2) ⟨re.1, fun o p e => g.free (re.2 o p e)⟩ kr, fun _ _ _ _ _ _ _ z => z.elim⟩)⟩
end
/-! == of data with itself -/
mutual
theorem eqv_self : ∀ (d : PyData), PyData.canLay0 d = true → PyData.eqv d d = true
  | .none, _ => by rw [PyData.eqv]
  | .bool b, _ => by rw [PyData.eqv]; exact beq_self_eq_true b
  | .int i, _ => by rw [PyData.eqv]; exact beq_self_eq_true i
  | .str x, _ => by rw [PyData.eqv]; exact beq_self_eq_true x
  | .list ds, h => by rw [PyData.eqv]; exact eqvAll_self ds (by simpa only [PyData.canLay0, Bool.and_eq_true] using h)
  | .tuple ds, h => by rw [PyData.eqv]; exact eqvAll_self ds (by simpa only [PyData.canLay0, Bool.and_eq_true] using h)
  | .dict _, h => by simp [PyData.canLay0] at h
theorem eqvAll_self : ∀ (ds : List PyData), PyData.canLayAll0 ds = true → PyData.eqvAll ds ds = true
  | [], _ => by rw [PyData.eqvAll]
  | d :: ds, h => by
    rw [PyData.canLayAll0, Bool.and_eq_true] at h
    rw [PyData.eqvAll, eqv_self d h.1, eqvAll_self ds h.2]; rfl
end
end Ab
/-! exceptions whose context is None: raised without arguments, passed on, caught; lambdas handed over and called -/
namespace Ab
open PySem PySem.Spec L2
open PyProof.Rows
inductive HdsN (X : Cx) (n : Str) : List ExceptHandler → List (Value × (Addr → Value → Option Addr → TS)) → Prop
  | nil : HdsN X n [] []
  | cons {x : Str} {c : Value} {ts : Addr → Value → Option Addr → TS} {b₀ : Stmt} {suite : List Stmt} {np pos' : Pos} {hds : List ExceptHandler} {l : List (Value × (Addr → Value → Option Addr → TS))} (hc : Names X x c)
      (hsu : ∀ (a : Addr) (oe : Obj) (cls : Value) (d : Option Addr) (pn : List (Addr × Obj)), L2N.Zn cls d oe → (∃ vs, oe.data = .fields vs) → PSs (X.suite a ((a, oe) :: pn)) (b₀ :: suite) (ts a cls d)) (r : HdsN X n hds l) :
      HdsN X n (.ExceptHandler (some (.Name x np)) (some n) (b₀ :: suite) pos' :: hds) ((c, ts) :: l)
section
variable {X : Cx} {n : Str} {i : Nat} {body : List Stmt} {h₀ : ExceptHandler} {hds : List ExceptHandler} {l : List (Value × (Addr → Value → Option Addr → TS))} {pos : Pos} {tb : WX → TS} {Wout : WX}
theorem ps_try_mn (hs : X.stack = X.env :: X.outer) (hf : X.env.frame = some X.env.locals) (hN : X.N.Nodup) (hi : X.N[i]? = some n) (hln : X.env.kindOf n = some .local) (tk : L2N.Takes X Wout)
    (hb : ∀ (W : WX) (pn : List (Addr × Obj)) (xe : Value → Shared → Prop), L2N.Takes (X.tr pn xe) W → PassesOwn (model X.prog X.w) X.A X.env xe → PSs (X.tr pn xe) body (tb W))
    (hh : HdsN X n (h₀ :: hds) l) : PS X (.Try body (h₀ :: hds) [] [] pos) (fun D σ H => tb (wMA X.K i Wout D l) D σ H) := by
  refine ⟨fun pins s σ H D I h => ?_⟩
  have ok := I.ok
  have hfr : X.A.frames = some (X.env :: X.outer) := by rw [ok.frames, hs]
  have hloc : Loc X.env.scope n := .inl hln
  refine wpAny_Try_except ?_
  refine wpAny_mono ((hb (wMA X.K i Wout D l) (X.pn ++ pins) (fun e s₁ => wpAny (model X.prog X.w) X.A (noteFrame e X.env) (fun _ s₂ => wpAny (model X.prog X.w) X.A (setFlight e none) (fun _ s₃ =>
    wpAny (model X.prog X.w) X.A (handleBy e X.env (h₀ :: hds)) (SP X pins D) X.xe s₃) X.xe s₂) X.xe s₁) (fun u s' xx => ?_) PassesOwn.looking).run [] s σ H D (I.toTry _) h) (fun f s1 hsp => ?_) (fun e s1 he => he)
  · obtain ⟨a, B, sI, pins', σ', H', cls, d, rfl, J', nb, up, sky, na, os, ag, w⟩ := xx
    have J : Inv X pins σ' H' sI := J'.ofTry ok
    have sky' : Sky B (X.env :: X.outer) a (L2N.Zn cls d) X.env.locals s'.heap := by rw [← hs]; exact sky
    show wpAny (model X.prog X.w) X.A (noteFrame (.ref a) X.env) _ _ _
    refine L2N.Sky.land L2N.Zn.steady hfr hf sky' fun h3 fl3 up3 => ?_
    have J3 : Inv X pins σ' H' { s' with heap := h3 } := J.landed nb fl3.1 (up.trans up3) os ag
    obtain ⟨oe3, vs3, he3, hz3, hd3⟩ := fl3.there
    have notFr : ∀ {h : Heap} {o : Obj} {vs : Array Value}, h.FunFrames B (X.env :: X.outer) → h.get? a = some o → o.data = .fields vs → a ∉ frs (X.env :: X.outer) := fun {h o vs} ff e dd hm => by
      obtain ⟨_, o', e', hnf⟩ := ff.mem hm
      rw [e] at e'; cases e'
      exact hnf _ dd
    have nfr := notFr fl3.2.2.1 he3 hd3
    have nL : a ≠ X.env.locals := fun z => nfr (List.mem_filterMap.mpr ⟨X.env, List.mem_cons_self, by rw [hf, z]⟩)
    have nF : a ∉ X.fs := fun hm => by
      obtain ⟨e, he, q⟩ := List.mem_filterMap.mp hm
      exact nfr (List.mem_filterMap.mpr ⟨e, List.mem_cons_of_mem _ he, q⟩)
    have S3 := J3.suite he3 hd3 na nL nF
    have go : ∀ {hds' : List ExceptHandler} {l' : List (Value × (Addr → Value → Option Addr → TS))}, HdsN X n hds' l' → wMA X.K i Wout D l' cls d σ' H' →
        wpAny (model X.prog X.w) X.A (handleBy (.ref a) X.env hds') (SP X pins D) X.xe { s' with heap := h3 } := by
      intro hds' l' hk
      induction hk with
      | nil =>
        intro w
        refine wpAny_handleBy_nil ?_
        obtain ⟨k1, k2, k3, oe, vs, T, oT, ts', he, hz, hd, h1, hr⟩ := id fl3
        unfold PySem.passOn
        refine wpAny_bind (wpAny_field he hd h1 ?_)
        rw [if_neg (show ¬ ((Value.ref T == Value.none) = true) from by simp)]
        have fin : wpAny (model X.prog X.w) X.A (setFlight (.ref a) X.env.frame) (fun _ s4 => wpAny (model X.prog X.w) X.A (throw (.ref a) : Sem Flow) (SP X pins D) X.xe s4) X.xe { s' with heap := h3 } := by
          rw [hf]
          refine HandSPX.setFlight_upZ fl3 fun h4 hh4 up4 => wpAny_throw (tk _ _ ?_)
          exact ⟨a, B, sI, pins, σ', H', cls, d, rfl, J, nb, (up.trans up3).trans up4, .inr (.inr (by rw [hs]; exact hh4)), na, os, ag, w⟩
        first
          | exact wpAny_bind (wpAny_pure (wpAny_bind fin))
          | exact wpAny_bind fin
      | @cons x c ts b₀ suite np pos' hds2 l2 hc hsu r ih =>
        intro w
        obtain ⟨b, hb1, hyes, hno⟩ := w
        refine wpAny_handleBy_cons (codeAny_handlers_test ?_) (by intro q; cases q)
        have LT : PySem.W.Looks (model X.prog X.w) h3 (typeOf (.ref a)) cls := fun A Q E s k q => wpAny_typeOf_ref (k _ _ he3) (by rw [hz3.1]; exact q)
        have LM := PySem.W.exm_one (M := model X.prog X.w) (J3.kIn) LT hb1
        have test : ∀ {Q : Value → Shared → Prop} {E : Value → Shared → Prop}, Q c { s' with heap := h3 } → wpAny (model X.prog X.w) (X.A.mark (some (.ref a))) (eval (.Name x np) X.env) Q E { s' with heap := h3 } := fun {Q E} q => by
          obtain ⟨hg, hdbg, hm | ⟨hm, hv, hnn⟩⟩ := hc
          · exact ld_glob (X := X.suite a ((a, oe3) :: (X.pn ++ pins))) S3 hg hm q hdbg
          · exact ld_blt (X := X.suite a ((a, oe3) :: (X.pn ++ pins))) S3 hg hm hv q hnn hdbg
        refine test (LM.here ?_)
        cases b with
        | true =>
          refine codeAny_handlers_suite_as ?_
          refine HandSPX.lands_againZ fl3 fun h4 fl4 up4 => ?_
          have J4 : Inv X pins σ' H' { s' with heap := h4 } := J.landed nb fl4.1 ((up.trans up3).trans up4) os ag
          obtain ⟨oe4, vs4, he4, hz4, hd4⟩ := fl4.there
          have S4 := J4.suite he4 hd4 na nL nF
          refine store_ok (X := X.suite a ((a, oe4) :: (X.pn ++ pins))) (v := .ref a) S4 hN hi hloc rfl (fun s5 S5 => ?_) (.inr hln)
          refine wpAny_mono ((hsu a oe4 cls d (X.pn ++ pins) hz4 ⟨_, hd4⟩).run [] s5 _ H' _ S5 (hyes rfl a na)) (fun f s6 hsp => ?_) (fun _ _ z => False.elim z)
          have end_ : ∀ {σ6 : L2.St} {H6 : Hp} {Q : Shared → Prop}, Inv (X.suite a ((a, oe4) :: (X.pn ++ pins))) [] σ6 H6 s6 → (∀ s7, Inv X pins (σ6.set i none) H6 s7 → Q s7) →
              wpAny (model X.prog X.w) X.A (do bindName X.env n .none; unbindBehindTheSuite X.env n pos') (fun _ s7 => Q s7) X.xe s6 := fun {σ6 H6 Q} S6 hq => gone_ok (S6.unsuite ok) hN hi hln hq
          cases f with
          | next =>
            obtain ⟨σ6, H6, S6, q6⟩ := hsp
            exact end_ S6 fun s7 J7 => ⟨_, _, J7, q6⟩
          | brk =>
            obtain ⟨σ6, H6, S6, q6⟩ := hsp
            exact end_ S6 fun s7 J7 => ⟨_, _, J7, q6⟩
          | cont =>
            obtain ⟨σ6, H6, S6, q6⟩ := hsp
            exact end_ S6 fun s7 J7 => ⟨_, _, J7, q6⟩
          | ret u =>
            obtain ⟨v6, σ6, H6, S6, r6, q6⟩ := hsp
            exact end_ S6 fun s7 J7 => ⟨_, _, _, J7, r6, q6⟩
        | false =>
          show wpAny _ X.A (handleBy (.ref a) X.env hds2) _ _ _
          exact ih (hno rfl)
    exact go hh w
  · cases f with
    | next =>
      obtain ⟨σ', H', J', q⟩ := hsp
      exact wpAny_execs_nil ⟨σ', H', J'.ofTry ok, q⟩
    | brk =>
      obtain ⟨σ', H', J', q⟩ := hsp
      exact ⟨σ', H', J'.ofTry ok, q⟩
    | cont =>
      obtain ⟨σ', H', J', q⟩ := hsp
      exact ⟨σ', H', J'.ofTry ok, q⟩
    | ret u =>
      obtain ⟨v, σ', H', J', r, q⟩ := hsp
      exact ⟨v, σ', H', J'.ofTry ok, r, q⟩
end

/-! ### x() of an own class without a field -/
structure XCls0 (K : PySem.W.Frag) (mg : Str → Option Value) (x : Str) (C : Addr) : Prop where
  mgC : mg x = some (.ref C)
  ex : PySem.W.excIn K C He.veBase "ValueError.__new__" = true
  kp : PySem.W.keepIn K (.ref C) = true
  sub : PySem.W.subIn K (.ref C) (.type "BaseException") = some true
  ty : PySem.W.typeIn K (.ref C) = some (.type "type")
  ec : ExcC K C
theorem pmk_own0 {X : Cx} {x : Str} {C : Addr} {p pos : Pos} (T : XCls0 X.K X.mg x C) (hg : Gl X x) (hdb : (x == ("__debug__" : Str)) = false := by decide) : L2N.PMk X (.Call (.Name x p) [] [] pos) (fun _ H Q => Q (.ref C) none H) := by
  intro pins s σ H Q I h
  refine wpAny_Call_Name_kw (ld_glob I hg T.mgC ?_ hdb)
  refine PySem.W.callWith_K0 I.kIn T.kp ?_
  show wpAny _ _ (call (.ref C) []) _ _ _
  obtain ⟨bm, N, nm, qn, bs, hdct, sn, sub, ab, col, dd, k0, k1, k2, k3, k5, mN, hC, hN, hni, T2⟩ := exc_obj I.kIn T.ex
  refine wpAny_call_exc_subT PySem.F.excBase_ValueError T2 hC hN hni (fun h' e hm => ?_) (by show 0 ≤ sizeLine; exact Nat.zero_le _)
  exact L2N.mk_of I hm (raises_own T.sub T.ty) h (I.hok.gone hm.new)
/-! ### defs that may let out such exceptions -/
def HasN (P : Program) (w : World) (K : PySem.W.Frag) (mg : Str → Option Value) (base : Heap) (n : Nat) (x : Str) (ps : List Str) (pre : FSX) : Prop :=
  ∃ f fd, FnOk P w K mg base (L2N.CX P w) n f fd ps (SpX K mg pre) ∧ mg x = some (.ref f) ∧ PySem.W.keepIn K (.ref f) = true ∧ Binds K fd ps []
theorem has_ofN {P : Program} {w : World} {K : PySem.W.Frag} {mg : Str → Option Value} {base : Heap} {n : Nat} {x : Str} {st : Stmt} {N ps : List Str} {pre : FSX} (F : Df K mg x st ps) (S : FnScope N ps (defScope st)) (len : ∀ rs k ke, pre rs k ke → rs.length = ps.length)
    (body : ∀ (f : Addr) (cdv : Value) (A : Around) (outer : List Env) (s : Shared) (H : Hp) (E : XK), Room n (A.deeper (envOfC x (defScope st) s.heap.objs.size f cdv)) →
      L2N.Takes (cxOf (L2N.CX P w) P w K mg base N x (defScope st) f cdv A outer s H E) (fun cls d _ H' => E cls d H') → PassesOwn (model P w) (A.deeper (envOfC x (defScope st) s.heap.objs.size f cdv)) (envOfC x (defScope st) s.heap.objs.size f cdv) (cxOf (L2N.CX P w) P w K mg base N x (defScope st) f cdv A outer s H E).xe →
      ∀ (B : Bg) (rs : List Sl) (k : Sl → Prop) (ke : Exn → Prop), pre rs k ke →
      RunSs (cxOf (L2N.CX P w) P w K mg base N x (defScope st) f cdv A outer s H E) B (defBody st) (startS N rs) { nx := fun _ => k (.d .none), rt := k, ex := ExE K mg B ke E }) : HasN P w K mg base (n + 1) x ps pre := by
  obtain ⟨f, fd, F, hm, hb⟩ := F
  refine ⟨f, fd, F.ok S (fun vs H Q E h => ?_) (fun cdv A outer s H vs Q E hr h => ?_), hm, F.kp, hb⟩
  · obtain ⟨B, G, rs, k, ke, _, _, ao, pr, _⟩ := h
    rw [Paired.length ao]
    exact len rs k ke pr
  · obtain ⟨B, G, rs, k, ke, tt, ok, ao, pr, cont, cex⟩ := h
    refine ⟨_, pss_self, ?_⟩
    have tk : L2N.Takes (cxOf (L2N.CX P w) P w K mg base N x (defScope st) f cdv A outer s H E) (fun cls d _ H' => E cls d H') := L2N.takes_of rfl rfl rfl rfl
    refine (body f cdv A outer s H E hr tk (passes_of (X := cxOf (L2N.CX P w) P w K mg base N x (defScope st) f cdv A outer s H E) rfl) B rs k ke pr).run G H (L2.start N vs) G H _ ⟨Grow.refl ok, envOk_start tt ao, fun i t p e o ev => ?_⟩ ⟨fun Γ σ G' H' st q => cont .non G' H' _ st.gr (Res.dat .non) q, fun v G' H' r g re q => cont v G' H' r g re q, fun _ _ _ _ _ q => q.elim, fun _ _ _ _ _ q => q.elim, fun G1 H1 g1 => cex.grow g1⟩
    exact (start_own tt ao e o).elim
section
variable {X : Cx} {B : Bg} {Γ : List Sl} {D : Dn} {e : Expr} {es : List Expr} {p1 p2 pos pos2 : Pos} {E : XK} {ke : Exn → Prop} {k : Sl → Prop} {G0 H0 G H : Hp} {σ : L2.St} {Q : VK}
/-- raise x() -/
theorem rs_raise0 {x : Str} {C : Addr} (T : XCls0 X.K X.mg x C) (tk : L2N.Takes X (fun cls d _ H => E cls d H)) (hc : X.calm = true) (hex : D.ex = ExE X.K X.mg B ke E) (q : ke (.bare x)) (hg : Gl X x := by rfl) (hdb : (x == ("__debug__" : Str)) = false := by decide) :
    RunS X B (.Raise (some (.Call (.Name x p1) [] [] pos)) none pos2) Γ D :=
  ⟨fun G0 H0 σ G H DH s d => tS_of (L2N.ps_raise hc tk (pmk_own0 T hg hdb)) (by
    have dex := d.ex G H s.gr
    rw [hex] at dex
    exact dex (.ref C) none G H (.bare x) (Grow.refl s.gr.ok) ⟨T.mgC, rfl⟩ q)⟩
/-- a call that may let out what ke tells -/
theorem tE_callN {n k0 : Nat} {x : Str} {ps : List Str} {pre : FSX} (F : HasN X.prog X.w X.K X.mg X.base n x ps pre) (hr : Room k0 X.A) (tk : L2N.Takes X (fun cls d _ H => E cls d H)) (ok : Ok B G H) (en : EnvOk X.K B G H σ Γ)
    (h : EvA X B (e :: es) Γ fun rs => pre rs k ke) (cont : ∀ v G' H' r, Grow B G H G' H' → Res X.K B H G' H' v r → k r → Q v H') (cex : ExE X.K X.mg B ke E G H) (hn : n ≤ k0 := by decide) (hg : Gl X x := by rfl)
    (hdb : (x == ("__debug__" : Str)) = false := by decide) (he : starEach (e :: es) X.env = (false, eval e X.env) :: starEach es X.env := by rfl) (hpl : (backTo pos (starEach es X.env)).any (·.1) = false := by rfl) : tE X (.Call (.Name x p1) (e :: es) [] pos) σ H Q := by
  obtain ⟨f, fd, F, hm, hk, hb⟩ := F
  refine tE_of (pe_call (E := E) F (hr.mono hn) hg hm hk hb .nil (L2N.passes_call tk fun _ _ _ _ h => h) pa_self hdb he hpl) (h.run σ G H _ ok en fun vs G1 H1 rs g ao pr => ?_)
  show SpX X.K X.mg pre (vs ++ []) H1 Q _
  rw [List.append_nil]
  exact ⟨B, G1, rs, k, ke, en.tt, g.ok, ao, pr, fun v G2 H2 r g2 re kr => cont v G2 H2 r (g.trans g2) ⟨re.1, fun o p e => g.free (re.2 o p e)⟩ kr, cex.grow g⟩
/-- as a statement -/
theorem rs_callN {n k0 : Nat} {x : Str} {ps : List Str} {pre : FSX} (F : HasN X.prog X.w X.K X.mg X.base n x ps pre) (hr : Room k0 X.A) (tk : L2N.Takes X (fun cls d _ H => E cls d H)) (hex : D.ex = ExE X.K X.mg B ke E)
    (h : EvA X B (e :: es) Γ fun rs => pre rs (fun _ => D.nx Γ) ke) (hn : n ≤ k0 := by decide) (hg : Gl X x := by rfl) (hsw : swapsWith (.Call (.Name x p1) (e :: es) [] pos) none pos2.line X.env = pure false := by rfl)
    (hdb : (x == ("__debug__" : Str)) = false := by decide) (he : starEach (e :: es) X.env = (false, eval e X.env) :: starEach es X.env := by rfl) (hpl : (backTo pos (starEach es X.env)).any (·.1) = false := by rfl) : RunS X B (.Expr (.Call (.Name x p1) (e :: es) [] pos) pos2) Γ D :=
  ⟨fun G0 H0 σ G H DH s d => tS_of (ps_expr pe_self hsw) (tE_callN F hr tk s.gr.ok s.en h (fun v G' H' r g _ kr => d.nx Γ σ G' H' (s.grow g) kr) (by
    have dex := d.ex G H s.gr
    rwa [hex] at dex) hn hg hdb he hpl)⟩
/-- a def that lets nothing out here -/
theorem ee_callN {n k0 : Nat} {x : Str} {ps : List Str} {pre : FSX} (F : HasN X.prog X.w X.K X.mg X.base n x ps pre) (hr : Room k0 X.A) (h : EvA X B (e :: es) Γ fun rs => pre rs k fun _ => False) (hn : n ≤ k0 := by decide) (hg : Gl X x := by rfl)
    (hdb : (x == ("__debug__" : Str)) = false := by decide) (he : starEach (e :: es) X.env = (false, eval e X.env) :: starEach es X.env := by rfl) (hpl : (backTo pos (starEach es X.env)).any (·.1) = false := by rfl) : EvE X B (.Call (.Name x p1) (e :: es) [] pos) Γ k := by
  obtain ⟨f, fd, F, hm, hk, hb⟩ := F
  have hp : Passes (L2N.CX X.prog X.w) X L2.E0 := fun pins σ H s e s' I ⟨_, _, _, _, _, _, _, _, _, _, _, _, h⟩ => h.elim
  exact ⟨fun σ G H Q ok en cont => tE_of (pe_call F (hr.mono hn) hg hm hk hb .nil hp pa_self hdb he hpl) (h.run σ G H _ ok en fun vs G1 H1 rs g ao pr => by
    show SpX X.K X.mg pre (vs ++ []) H1 Q _
    rw [List.append_nil]
    exact ⟨B, G1, rs, k, _, en.tt, g.ok, ao, pr, fun v G2 H2 r g2 re kr => cont v G2 H2 r (g.trans g2) ⟨re.1, fun o p e => g.free (re.2 o p e)⟩ kr, fun _ _ _ _ _ _ _ z => z.elim⟩)⟩
end
end Ab
/-! lambdas handed over, called in a try; suites behind an exception without a field -/
namespace Ab
open PySem PySem.Spec L2
open PyProof.Rows (envOfC)
/-- the slot of a lambda -/
def LamP (q : Str) (params : Arguments) (body : Expr) (scope : Scope) : V → Hp → Prop := fun v G => ∃ f, v = .ref f ∧ LamAt G f q params body scope
structure LamS (N ps : List Str) (q : Str) (params : Arguments) (body : Expr) (scope : Scope) : Prop where
  S : FnScope N ps scope
  b : ∀ (pm cv ctv : Value) (us : List Value), us.length = ps.length → bindArgs (PySem.W.kla_fn "<lambda>" q params body scope [] pm cv ctv) ⟨us, []⟩ = pure (ps.zip us)
section
variable {X : Cx} {B : Bg} {Γ : List Sl} {k : Sl → Prop}
theorem ee_lam {q : Str} {params : Arguments} {body : Expr} {scope : Scope} {lpos : Pos} (L : LamHere X q) (F : LamFree X params scope) (h : k (.pp (LamP q params body scope))) : EvE X B (.Lambda params body scope lpos) Γ k :=
  ⟨fun σ G H Q ok en cont => lam_here L F ok en fun f G' H' g la => cont (.ref f) G' H' (.pp (LamP q params body scope)) g ⟨fun G2 e => ⟨f, rfl, la.ext e⟩, fun z => by cases z⟩ h⟩
end
theorem run_lamN {X : Cx} {k : Nat} {N ps : List Str} {q : Str} {params : Arguments} {body : Expr} {scope : Scope} {f : Addr} {pins : List (Addr × Obj)} {σ : L2.St} {H : Hp} {s : Shared} {Q : VK} {us : List Value} {vs : List V} {E : XK} (L : LamS N ps q params body scope) (hr : Room (k + 1) X.A) (I : Inv X pins σ H s) (r : Vals vs us) (hl : vs.length = ps.length) (la : LamAt H f q params body scope)
    (hx : ∀ e s', L2N.CX X.prog X.w X.stack H s E e s' → X.xe e s')
    (hbody : ∀ c' : Addr, Room k (X.A.deeper (envOfC q scope s.heap.objs.size f (.ref c'))) → L2N.Takes (cxOf (L2N.CX X.prog X.w) X.prog X.w X.K X.mg X.base N q scope f (.ref c') X.A X.stack s H E) (fun cls d _ H' => E cls d H') →
      tE (cxOf (L2N.CX X.prog X.w) X.prog X.w X.K X.mg X.base N q scope f (.ref c') X.A X.stack s H E) body (L2.start N vs) H Q) : wpAny (model X.prog X.w) X.A (call (.ref f) us) (EP X pins σ Q) X.xe s := by
  obtain ⟨c', pm, ctv, h1, h2⟩ := la
  have of1 : s.heap.get? f = some (lamObj q params body scope pm c' ctv) := (I.hok f _ h1).1
  obtain ⟨⟨oc, vs', t, hoc, hdc, hvc⟩, _, _⟩ := I.hok c' _ h2
  have hkind : ∀ y ∈ ps.zip us, scope.names.lookup y.1 = some .local ∨ (scope.names.lookup y.1 = some .cell ∧ ((cellsFrom (s.heap.objs.size + 1) scope.names []).lookup y.1).isSome = true) := fun ⟨n, v⟩ hy => by
    rcases L.S.par n (List.of_mem_zip hy).1 with q | q
    · exact .inl q
    · exact .inr ⟨q, PySem.W.cellsFrom_some _ _ _ (.inl q)⟩
  have rc : codeAny (model X.prog X.w) X.A (.call (.ref f) ⟨us, []⟩) (CR (L2N.CX X.prog X.w) X.stack X.prog X.w H s Q E) s := by
    refine PySem.W.kla_callFunE hr.depth of1 rfl L.S.co L.S.gen rfl ⟨c', oc, vs', t, rfl, hoc, hdc, hvc⟩ ?_
    rw [L.b _ _ _ us (by rw [← r.length]; exact hl)]
    refine wpAny_pure (wpAny_newFunctionEnv_cells L.S.kind hkind fun env he s1 x => ?_)
    subst he
    refine ⟨I.nolimit.keeps x.toInCall.keep, ?_⟩
    have J : Inv (cxOf (L2N.CX X.prog X.w) X.prog X.w X.K X.mg X.base N q scope f (.ref c') X.A X.stack s H E) [] (L2.start N vs) H s1 := inv_start L.S hr.hd I.env0 hl r x
    have Hb := hbody c' (hr.deeper _) (L2N.takes_of rfl rfl rfl rfl) [] s1 J
    refine PySem.W.kla_codeExpr (wpAny_mono Hb (fun v s' hq => ?_) fun e s' hq => hq)
    obtain ⟨w', H', J', rv, q⟩ := hq
    exact ⟨w', H', J'.os, J'.bare, J'.base, J'.hok, rv, q⟩
  refine wpAny_call (codeAny_mono rc fun r s' hq => ?_)
  cases r with
  | error e => exact hx e s' hq
  | ok fl =>
    cases fl with
    | ret u => exact I.after hq
    | next => exact False.elim hq
    | brk => exact False.elim hq
    | cont => exact False.elim hq
/-- a lambda's promise -/
def CalleeN (P : Program) (w : World) (K : PySem.W.Frag) (mg : Str → Option Value) (base : Heap) (k : Nat) (q : Str) (params : Arguments) (body : Expr) (scope : Scope) (pre : FSX) : Prop :=
  ∀ (X : Cx) (B : Bg) (pins : List (Addr × Obj)) (σ : L2.St) (s : Shared) (G H : Hp) (f : Addr) (us : List Value) (vs : List V) (rs : List Sl) (ks : Sl → Prop) (ke : Exn → Prop) (Q : VK) (E : XK), X.prog = P → X.w = w → X.K = K → X.mg = mg → X.base = base → Room k X.A →
    Inv X pins σ H s → LamAt G f q params body scope → Vals vs us → B.tabs = lamTabs K → Ok B G H → ArgOk K B G H vs rs → pre rs ks ke → (∀ v G' H' r, Grow B G H G' H' → Res K B H G' H' v r → ks r → Q v H') → ExE K mg B ke E G H →
    (∀ e s', L2N.CX X.prog X.w X.stack H s E e s' → X.xe e s') → wpAny (model X.prog X.w) X.A (call (.ref f) us) (EP X pins σ Q) X.xe s
theorem callee_of {P : Program} {w : World} {K : PySem.W.Frag} {mg : Str → Option Value} {base : Heap} {k : Nat} {q : Str} {params : Arguments} {body : Expr} {scope : Scope} {N ps : List Str} {pre : FSX} (L : LamS N ps q params body scope) (len : ∀ rs k ke, pre rs k ke → rs.length = ps.length)
    (hbody : ∀ (f : Addr) (cdv : Value) (A : Around) (outer : List Env) (s : Shared) (H : Hp) (E : XK), Room k (A.deeper (envOfC q scope s.heap.objs.size f cdv)) → L2N.Takes (cxOf (L2N.CX P w) P w K mg base N q scope f cdv A outer s H E) (fun cls d _ H' => E cls d H') →
      ∀ (B : Bg) (G : Hp) (rs : List Sl) (ks : Sl → Prop) (ke : Exn → Prop) (Q : VK) (σ : L2.St), Ok B G H → EnvOk K B G H σ (startS N rs) → pre rs ks ke → (∀ v G' H' r, Grow B G H G' H' → Res K B H G' H' v r → ks r → Q v H') → ExE K mg B ke E G H →
      tE (cxOf (L2N.CX P w) P w K mg base N q scope f cdv A outer s H E) body σ H Q) : CalleeN P w K mg base (k + 1) q params body scope pre := by
  intro X B pins σ s G H f us vs rs ks ke Q E e1 e2 e3 e4 e5 hr I la r tt ok ao pr cont cex hx
  subst e1 e2 e3 e4 e5
  refine run_lamN L hr I r (by rw [Paired.length ao]; exact len _ _ _ pr) (la.ext ok.ex) hx fun c' hr2 tk => ?_
  exact hbody f (.ref c') X.A X.stack s H E hr2 tk B G rs ks ke Q _ ok (envOk_start tt ao) pr cont cex
/-! ### in a try -/
def tSuiN (X : Cx) (suite : List Stmt) (a : Addr) (cls : Value) (d : Option Addr) : TS := fun D σ H => ∀ (oe : Obj) (pn : List (Addr × Obj)), L2N.Zn cls d oe → (∃ vs, oe.data = .fields vs) → tSs (X.suite a ((a, oe) :: pn)) suite D σ H
theorem sui_selfN {X : Cx} {suite : List Stmt} (a : Addr) (oe : Obj) (cls : Value) (d : Option Addr) (pn : List (Addr × Obj)) (hz : L2N.Zn cls d oe) (hf : ∃ vs, oe.data = .fields vs) : PSs (X.suite a ((a, oe) :: pn)) suite (tSuiN X suite a cls d) :=
  ⟨fun pins s σ H D I h => h oe pn hz hf pins s I⟩
section
variable {X : Cx} {B : Bg} {Γ : List Sl} {D : Dn} {e c : Expr} {es : List Expr} {p p1 p2 p3 pos : Pos} {G0 H0 G H : Hp} {σ : L2.St} {DH : Ends} {i : Nat} {n : Str}
/-- it is the clause's, an exception without a field -/
theorem wMA_hereN {Wout : WX} {cv cls : Value} {d : Option Addr} {suite : List Stmt} {l : List (Value × (Addr → Value → Option Addr → TS))} (hs : StOk X.K B G0 H0 σ G H Γ) (hd : DnOk X.K B G0 H0 D DH) (he : PySem.W.exmOne X.K cls cv = some true) (hx : d = none)
    (h : ∀ (a : Addr) (oe : Obj) (pn : List (Addr × Obj)), L2N.Zn cls none oe → (∃ vs, oe.data = .fields vs) → RunSs (X.suite a ((a, oe) :: pn)) B suite (Γ.set i (.rv (.ref a))) (D.gone i)) : wMA X.K i Wout DH ((cv, tSuiN X suite) :: l) cls d σ H := by
  subst hx
  refine ⟨true, he, fun _ a na oe pn hz hf => ?_, fun z => by cases z⟩
  exact (h a oe pn hz hf).run G0 H0 _ G H _ (hs.asg (Grow.refl hs.gr.ok) (show Res X.K B H G H (.ref a) (.rv (.ref a)) from ⟨rfl, fun z => by cases z⟩) i) (hd.gone i)
/-- x(e, ..), x a local name that holds a lambda -/
theorem ps_callL {i : Nat} {x : Str} (hN : X.N[i]? = some x) (hv : Vis X.env.scope x)
    (hsw : swapsWith (.Call (.Name x p1) (e :: es) [] p) none p2.line X.env = pure false := by rfl) (hdb : (x == ("__debug__" : Str)) = false := by decide) (hcd : (x == ("__classdict__" : Str)) = false := by decide) (he : starEach (e :: es) X.env = (false, eval e X.env) :: starEach es X.env := by rfl) (hpl : (backTo p (starEach es X.env)).any (·.1) = false := by rfl) :
    PS X (.Expr (.Call (.Name x p1) (e :: es) [] p) p2) (fun D σ H => ∃ (f : Addr) (q : Str) (params : Arguments) (body : Expr) (scope : Scope), σ[i]? = some (some (.ref f)) ∧ LamAt H f q params body scope ∧
      tA X (e :: es) σ H fun vs H1 => LamAt H1 f q params body scope ∧ ∀ pins s us, Inv X pins σ H1 s → Vals vs us → wpAny (model X.prog X.w) X.A (call (.ref f) us) (EP X pins σ fun _ H2 => D.nx σ H2) X.xe s) := by
  refine ⟨fun pins s σ H D I h => ?_⟩
  refine (ps_expr (te := fun σ H Q => ∃ (f : Addr) (q : Str) (params : Arguments) (body : Expr) (scope : Scope), σ[i]? = some (some (.ref f)) ∧ LamAt H f q params body scope ∧
      tA X (e :: es) σ H fun vs H1 => LamAt H1 f q params body scope ∧ ∀ pins s us, Inv X pins σ H1 s → Vals vs us → wpAny (model X.prog X.w) X.A (call (.ref f) us) (EP X pins σ Q) X.xe s) ⟨fun pins s σ H Q I h => ?_⟩ hsw).run pins s σ H D I h
  obtain ⟨f, q, params, body, scope, hσ, la, ha⟩ := h
  have fnAt : ∀ {H : Hp} {s : Shared}, Inv X pins σ H s → LamAt H f q params body scope → PySem.W.FnAt f s.heap := fun {H s} I la => by
    obtain ⟨c', pm, ctv, h1, h2⟩ := la
    have of1 : s.heap.get? f = some (lamObj q params body scope pm c' ctv) := (I.hok f _ h1).1
    exact ⟨_, _, _, _, of1⟩
  refine wpAny_Call_Name_kw (thn ((pe_var hN hv hdb hcd).run pins s σ H (fun v H1 => v = .ref f ∧ H1 = H) I ⟨.ref f, hσ, rfl, rfl⟩) fun u s1 ⟨v, H1, I1, r1, e1, e2⟩ => ?_)
  subst e1 e2
  obtain rfl : u = Value.ref f := r1
  refine PySem.W.callWith_F (fnAt I1 la) (thn (ha p pins s1 I1) fun us s2 ⟨vs, H2, I2, r, la2, q⟩ => ⟨fnAt I2 la2, ?_⟩) he hpl
  exact q pins s2 us I2 r
/-- try: x(e, ..) except ..; x holds a lambda -/
theorem rs_tryL {Wout : WX} {j k1 : Nat} {x q : Str} {params : Arguments} {body : Expr} {scope : Scope} {pre : FSX} {ke : Exn → Prop} {h₀ : ExceptHandler} {hds : List ExceptHandler} {l : List (Value × (Addr → Value → Option Addr → TS))} (hs : X.stack = X.env :: X.outer) (hf : X.env.frame = some X.env.locals) (hN : X.N.Nodup) (hi : X.N[i]? = some n) (hln : X.env.kindOf n = some .local) (tk : L2N.Takes X Wout)
    (hh : HdsN X n (h₀ :: hds) l) (hgj : Γ[j]? = some (.pp (LamP q params body scope))) (C : CalleeN X.prog X.w X.K X.mg X.base k1 q params body scope pre) (hr : Room k1 X.A)
    (ha : ∀ (pn : List (Addr × Obj)) (xe : Value → Shared → Prop), EvA (X.tr pn xe) B (e :: es) Γ fun rs => pre rs (fun _ => D.nx Γ) ke)
    (hc : ∀ ex, ke ex → ∀ cls dx G0 H0 σ G H DH, StOk X.K B G0 H0 σ G H Γ → ExnOk X.K X.mg G cls dx ex → DnOk X.K B G0 H0 D DH → wMA X.K i Wout DH l cls dx σ H)
    (hN2 : X.N[j]? = some x := by rfl) (hv : Vis X.env.scope x := by first | exact Or.inl rfl | exact Or.inr (Or.inl rfl) | exact Or.inr (Or.inr rfl))
    (hsw : swapsWith (.Call (.Name x p1) (e :: es) [] p) none p2.line X.env = pure false := by rfl) (hdb : (x == ("__debug__" : Str)) = false := by decide) (hcd : (x == ("__classdict__" : Str)) = false := by decide) (he : starEach (e :: es) X.env = (false, eval e X.env) :: starEach es X.env := by rfl) (hpl : (backTo p (starEach es X.env)).any (·.1) = false := by rfl) :
    RunS X B (.Try [.Expr (.Call (.Name x p1) (e :: es) [] p) p2] (h₀ :: hds) [] [] pos) Γ D :=
  ⟨fun G0 H0 σ G H DH s d => tS_of (ps_try_mn hs hf hN hi hln tk (tb := fun W D σ H => ∀ pn xe, L2N.Takes (X.tr pn xe) W → PassesOwn (model X.prog X.w) X.A X.env xe → tSs (X.tr pn xe) [.Expr (.Call (.Name x p1) (e :: es) [] p) p2] D σ H)
    (fun W pn xe tk po => ⟨fun pins s σ H Q I h => h pn xe tk po pins s I⟩) hh) (fun pn xe tk2 po => by
      obtain ⟨v, e1, e2⟩ := s.en.ok j _ hgj (by simp)
      obtain ⟨f, rfl, la⟩ := e2 G (Ext.refl G)
      refine tSs_of (pss_one (ps_callL (X := X.tr pn xe) hN2 hv hsw hdb hcd he hpl)) ⟨f, q, params, body, scope, e1, la.ext s.gr.ok.ex, ?_⟩
      exact (ha pn xe).run σ G H _ s.gr.ok s.en fun vs G1 H1 rs g ao pr => ⟨(la.ext g.g).ext g.ok.ex, fun pins' s' us I r =>
        C (X.tr pn xe) B pins' σ s' G1 H1 f us vs rs _ ke _ (fun cls dx H2 => wMA X.K i Wout DH l cls dx σ H2) rfl rfl rfl rfl rfl hr I (la.ext g.g) r s.en.tt g.ok ao pr (fun v G' H' r g2 re kr => d.nx Γ σ G' H' (s.grow (g.trans g2)) kr)
          (fun cls dx G' H' e g2 ex kx => hc e kx cls dx G0 H0 σ G' H' DH (s.grow (g.trans g2)) ex d) (fun e s2 c => tk2 e s2 (L2N.XE.of_call I (fun cls d H' h => h) c))⟩)⟩
variable {a : Addr} {oe : Obj} {pn : List (Addr × Obj)} {C : Addr} {k : Sl → Prop}
/-- isinstance(e, y) of the caught exception without a field -/
theorem ee_exisN (j : Nat) {x y : Str} {b : Bool} {cv : Value} {c : V} {p4 : Pos} (EC : ExcC X.K C) (hz : L2N.Zn (.ref C) none oe) (hf : ∃ vs, oe.data = .fields vs) (hm : X.mg "isinstance" = none) (hg : Γ[j]? = some (.rv (.ref a))) (hcv : ∀ u, RelV c u → u = cv) (hy : PE (X.suite a ((a, oe) :: pn)) (.Name y p4) (L2.tC c)) (hki : PySem.W.kitOne X.K (.ref C) cv = some b) (q : k (.d (.bool b)))
    (hN : X.N[j]? = some x := by rfl) (hv : Vis X.env.scope x := by first | exact Or.inl rfl | exact Or.inr (Or.inl rfl) | exact Or.inr (Or.inr rfl)) (hgl : Gl X "isinstance" := by rfl)
    (hd : (x == ("__debug__" : Str)) = false := by decide) (hcd : (x == ("__classdict__" : Str)) = false := by decide)
    (he : starEach [.Name x p2, .Name y p4] X.env = (false, eval (.Name x p2) X.env) :: starEach [.Name y p4] X.env := by rfl) (he2 : starEach [.Name y p4] X.env = (false, eval (.Name y p4) X.env) :: starEach [] X.env := by rfl) (hpl : (backTo pos (starEach [.Name y p4] X.env)).any (·.1) = false := by rfl) :
    EvE (X.suite a ((a, oe) :: pn)) B (.Call (.Name "isinstance" p1) [.Name x p2, .Name y p4] [] pos) Γ k :=
  ⟨fun σ G H Q o en cont => by
    obtain ⟨v, e, e2⟩ := en.ok j _ hg (by simp)
    have e3 : v = .ref a := e2
    subst e3
    refine tE_of (pe_callB (X := X.suite a ((a, oe) :: pn)) (call_isX EC hz.zc hf) hgl hm (by exact boot_isinstance) (pa_cons (pe_var hN hv hd hcd) (pa_cons hy pa_nil he2) he) (by decide) (by decide) he hpl) ⟨_, e, ?_⟩
    exact ⟨c, cv, b, rfl, hcv, (fun dx' hx => by cases hx), hki, cont (.bl b) G H _ (Grow.refl o) (Res.dat (.bl b)) q⟩⟩
end
end Ab
/-! a list comprehension over a list of tuples while an exception is handled -/
namespace Ab
open PySem PySem.Spec PyProof.Rows L2 L2H HotX
open Sem (wp)
section
variable {prog : Program} {w : World} {A : Around} {E : Value → Shared → Prop} {s : Shared}
theorem next_list_end_hot {it l : Addr} {i : Nat} {items} {Q : Option Value → Shared → Prop} {x1 : Addr} (hot : HotAt A x1 s.heap)
    (hit : s.heap.IsListIter it l i) (hl : s.heap.IsList l items) (hx : items[i]? = none)
    (hQ : ∀ h', Heap.ExtBut it s.heap h' → Q none { s with heap := h' }) : wpAny (model prog w) A (pyNext (.ref it)) Q E s := by
  obtain ⟨o, ho, hc, hd⟩ := id hit
  obtain ⟨ol, hol, _, nl, hdl⟩ := hl
  obtain ⟨hh, o1, vs1, h1, d1, c1⟩ := hot
  have nx : it ≠ x1 := fun z => by
    subst z
    rw [ho] at h1
    cases h1
    rw [hd] at d1
    cases d1
    simp at c1
  unfold pyNext
  refine wpAny_bind (wpAny_attempt (wpAny_callSpecial?_slot (name := Str.ofString "__next__") hit.typeIs slot_listiter_next
    (wpAny_call_entry slot_listiter_next hit.typeIs entry_listiter_next ?_ (args_listiter_next _))))
  show wpAny _ _ (field (.ref it) 0 >>= _) _ _ s
  refine wpAny_bind (wpAny_field ho hd (x := .ref l) rfl ?_)
  show wpAny _ _ (if (Value.ref l == Value.none) = true then _ else _) _ _ s
  rw [if_neg (show ¬ ((Value.ref l == Value.none) = true) from Bool.false_ne_true)]
  show wpAny _ _ (field (.ref it) 1 >>= _) _ _ s
  refine wpAny_bind (wpAny_field ho hd (x := .int i 0) rfl ?_)
  show wpAny _ _ (seqItems? (.ref l) >>= _) _ _ s
  refine wpAny_bind (wpAny_seqItems hol hdl ?_)
  simp only [Int.toNat_natCast, hx]
  refine wpAny_bind (wpAny_rule (wpAny_bind (wpAny_setField ho hd (by simp) ?_)))
  show wpAny _ _ (newExc (.type "StopIteration") [] >>= _) _ _ _
  refine wpAny_bind ?_
  simp only [newExc, newTuple]
  refine wpAny_bind (wpAny_newObj_type ?_ (by size_fits))
  refine wpAny_bind (m := firstArgMember _ _) (wpAny_of_eq (a := Value.none) (by first | rfl | (simp only [firstArgMember]; rfl)) ?_)
  refine wpAny_newObj_type ?_ (by size_fits)
  have k1 : ∀ b u, b ≠ it → s.heap.get? b = some u → ∀ (F : Obj → Obj) (p q : Obj), ((((s.heap.update it F).push p).push q).get? b) = some u := fun b u hb e F p q =>
    Heap.get?_push_of_some _ (Heap.get?_push_of_some _ ((Heap.get?_update_other _ _ (Ne.symm hb)).trans e))
  refine raiseNew_hot ⟨hh, o1, vs1, k1 x1 o1 (Ne.symm nx) h1 _ _ _, d1, c1⟩ (Nat.ne_of_lt (Heap.lt_size (Heap.get?_push_of_some _ ((Heap.get?_update_other _ _ nx).trans h1)))) (Heap.get?_push_size _ rfl) rfl (by first | (simp; done) | (simp; omega) | (simp only [Array.size_append]; simp; omega)) ?_
  refine wpAny_bind (wpAny_isInstance (T := "StopIteration") (b := true) ⟨_, Heap.get?_update_self _ (Heap.get?_push_size _ rfl) rfl, rfl⟩ isSubtype_stop ?_)
  refine wpAny_pure (hQ _ fun b o hb e => ?_)
  rw [Heap.get?_update_other _ _ (Nat.ne_of_gt (Heap.lt_size (Heap.get?_push_of_some _ ((Heap.get?_update_other _ _ (Ne.symm hb)).trans e))))]
  exact k1 b o hb e _ _ _
theorem next_tuple_end_hot {it t : Addr} {i : Nat} {items} {Q : Option Value → Shared → Prop} {x1 : Addr} (hot : HotAt A x1 s.heap)
    (hit : IsTupIter s.heap it t i) (ht : IsTup s.heap t items) (hx : items[i]? = none)
    (hQ : ∀ h', Heap.ExtBut it s.heap h' → Q none { s with heap := h' }) : wpAny (model prog w) A (pyNext (.ref it)) Q E s := by
  obtain ⟨o, ho, hc, hd⟩ := id hit
  obtain ⟨ol, hol, _, nl, hdl⟩ := ht
  obtain ⟨hh, o1, vs1, h1, d1, c1⟩ := hot
  have nx : it ≠ x1 := fun z => by
    subst z
    rw [ho] at h1
    cases h1
    rw [hd] at d1
    cases d1
    simp at c1
  unfold pyNext
  refine wpAny_bind (wpAny_attempt (wpAny_callSpecial?_slot (name := Str.ofString "__next__") hit.typeIs slot_tupleiter_next
    (wpAny_call_entry slot_tupleiter_next hit.typeIs entry_tupleiter_next ?_ (args_tupleiter_next _))))
  show wpAny _ _ (field (.ref it) 0 >>= _) _ _ s
  refine wpAny_bind (wpAny_field ho hd (x := .ref t) rfl ?_)
  show wpAny _ _ (if (Value.ref t == Value.none) = true then _ else _) _ _ s
  rw [if_neg (show ¬ ((Value.ref t == Value.none) = true) from Bool.false_ne_true)]
  show wpAny _ _ (field (.ref it) 1 >>= _) _ _ s
  refine wpAny_bind (wpAny_field ho hd (x := .int i 0) rfl ?_)
  show wpAny _ _ (seqItems? (.ref t) >>= _) _ _ s
  refine wpAny_bind (wpAny_seqItems hol hdl ?_)
  simp only [Int.toNat_natCast, hx]
  refine wpAny_bind (wpAny_rule (wpAny_bind (wpAny_setField ho hd (by simp) ?_)))
  show wpAny _ _ (newExc (.type "StopIteration") [] >>= _) _ _ _
  refine wpAny_bind ?_
  simp only [newExc, newTuple]
  refine wpAny_bind (wpAny_newObj_type ?_ (by size_fits))
  refine wpAny_bind (m := firstArgMember _ _) (wpAny_of_eq (a := Value.none) (by first | rfl | (simp only [firstArgMember]; rfl)) ?_)
  refine wpAny_newObj_type ?_ (by size_fits)
  have k1 : ∀ b u, b ≠ it → s.heap.get? b = some u → ∀ (F : Obj → Obj) (p q : Obj), ((((s.heap.update it F).push p).push q).get? b) = some u := fun b u hb e F p q =>
    Heap.get?_push_of_some _ (Heap.get?_push_of_some _ ((Heap.get?_update_other _ _ (Ne.symm hb)).trans e))
  refine raiseNew_hot ⟨hh, o1, vs1, k1 x1 o1 (Ne.symm nx) h1 _ _ _, d1, c1⟩ (Nat.ne_of_lt (Heap.lt_size (Heap.get?_push_of_some _ ((Heap.get?_update_other _ _ nx).trans h1)))) (Heap.get?_push_size _ rfl) rfl (by first | (simp; done) | (simp; omega) | (simp only [Array.size_append]; simp; omega)) ?_
  refine wpAny_bind (wpAny_isInstance (T := "StopIteration") (b := true) ⟨_, Heap.get?_update_self _ (Heap.get?_push_size _ rfl) rfl, rfl⟩ isSubtype_stop ?_)
  refine wpAny_pure (hQ _ fun b o hb e => ?_)
  rw [Heap.get?_update_other _ _ (Nat.ne_of_gt (Heap.lt_size (Heap.get?_push_of_some _ ((Heap.get?_update_other _ _ (Ne.symm hb)).trans e))))]
  exact k1 b o hb e _ _ _
theorem unpackItems_tupleH {t : Addr} {items : Array Value} {Q : List Value → Shared → Prop} {x1 : Addr} (hot : HotAt A x1 s.heap) (ht : IsTup s.heap t items)
    (hQ : ∀ h', Heap.ExtBut s.heap.objs.size s.heap h' → Q items.toList { s with heap := h' }) : wpAny (model prog w) A (unpackItems (.ref t) items.size none) Q E s := by
  have hlt : t ≠ s.heap.objs.size := by obtain ⟨o, ho, _⟩ := ht; exact Nat.ne_of_lt (Heap.lt_size ho)
  unfold unpackItems
  refine wpAny_bind ?_
  · unfold notIterableAtAll
    refine wpAny_bind (wpAny_specialOf ht.typeIs slot_tuple_iter.lookup ?_)
    refine wpAny_pure ?_
    simp only [Bool.false_eq_true, if_false]
    refine wpAny_bind (wpAny_holding (iter_tuple ht ?_))
    refine wpAny_bind (wpAny_holding (draw_tuple hlt items.size 0 _ _ ⟨_, Heap.get?_push_size _ rfl, rfl, rfl⟩ (ht.push _) (by omega) fun h₁ hit₁ hs₁ => ?_))
    have hall : List.take items.size (List.drop 0 items.toList) = items.toList := by
      rw [List.drop_zero]; exact List.take_of_length_le (by simp)
    rw [hall]
    rw [if_neg (by simp)]
    have ht₁ : IsTup h₁ t items := (ht.push _).extBut hs₁.extBut hlt
    have hot₁ : HotAt A x1 h₁ := by
      obtain ⟨hh, o1, vs1, h1, d1, c1⟩ := hot
      exact ⟨hh, o1, vs1, hs₁.extBut x1 o1 (Nat.ne_of_lt (Heap.lt_size h1)) (Heap.get?_push_of_some _ h1), d1, c1⟩
    refine wpAny_bind (wpAny_holding (next_tuple_end_hot hot₁ hit₁ ht₁ (by simp) fun h₂ he₂ => ?_))
    simp only [Option.isSome_none, Bool.false_eq_true, if_false]
    refine wpAny_pure (hQ h₂ fun b o hb e => he₂ b o hb (hs₁.extBut b o hb (Heap.get?_push_of_some _ e)))

theorem unpack_tupleH {t : Addr} {items : Array Value} {targets : List (Bool × (Value → Sem Unit))} {Q : Unit → Shared → Prop} {x1 : Addr} (hot : HotAt A x1 s.heap) (ht : IsTup s.heap t items)
    (hn : targets.length = items.size) (hstar : targets.findIdx? (·.1) = none)
    (h : ∀ h', Heap.ExtBut s.heap.objs.size s.heap h' → wpAny (model prog w) A (assignInOrder (targets.map (·.2)) items.toList) Q E { s with heap := h' }) :
    wpAny (model prog w) A (unpack (.ref t) targets) Q E s := by
  unfold unpack
  rw [hn, hstar]
  exact wpAny_bind (wpAny_holding (unpackItems_tupleH hot ht h))
theorem assign_Tuple_tupleH {env : Env} {elts : List Expr} {xq : Nat} {pos : Pos} {t : Addr} {items : Array Value} {Q : Unit → Shared → Prop} {x1 : Addr} (hot : HotAt A x1 s.heap) (ht : IsTup s.heap t items)
    (hn : (assignEach elts env).length = items.size) (hstar : (assignEach elts env).findIdx? (·.1) = none)
    (h : ∀ h', Heap.ExtBut s.heap.objs.size s.heap h' → wpAny (model prog w) A (assignInOrder ((assignEach elts env).map (·.2)) items.toList) Q E { s with heap := h' }) :
    wpAny (model prog w) A (assign (.Tuple elts xq pos) env (.ref t)) Q E s := by
  rw [assign_Tuple]
  exact wpAny_bind (wpAny_standAt (unpack_tupleH hot ht hn hstar h))
end
theorem turn_listH {P : Program} {w : World} {K : PySem.W.Frag} {tg : Expr} (a it : Addr) : TurnH P w K tg (Itl K a) [it] it (fun i h => h.IsListIter it a i) where
  mem := by simp
  obj := fun i h st b hb => by
    have e : b = it := by simpa using hb
    subst e
    obtain ⟨o, e, c, d⟩ := st
    exact ⟨o, e, fun v z => by rw [d] at z; cases z⟩
  keep := fun i h h' st k => st.at fun o e => k it (by simp) o e
  item := by
    intro X hP hw hK hc i pins s σ H E I hf st hg
    subst hP hw hK
    obtain ⟨xs, x, hq, hx⟩ := hg
    obtain ⟨its, rv, p, hz⟩ := I.list hq
    obtain ⟨u, hu, ru⟩ := rv.get hx
    obtain ⟨f0, f1, f2, f3, f4, f5⟩ := hf it (by simp)
    refine wpAny_pyNext_list_item st p.isList (x := u) (by simpa using hu) fun h' st' sb => ?_
    have I1 : Inv X pins σ H { s with heap := h' } := I.turned (t' := s.toks) (fun b o hb e => (sb.2 b hb).trans e) f0 f1 f3 f4 f5
    obtain ⟨o, e, c, d⟩ := id st'
    exact ⟨u, rfl, go_of (s := { s with heap := h' }) e c d (by decide) ⟨x, H, I1, ru, ⟨rfl, fun ys hy => by rw [I.list_inj hy hq]; exact hx⟩, st', fun b hb => (hf b hb).1⟩⟩
  done := by
    intro X hP hw hK hc i pins s σ H E I hf st hg
    subst hP hw hK
    obtain ⟨xs, hq, hx⟩ := hg
    obtain ⟨its, rv, p, hz⟩ := I.list hq
    obtain ⟨f0, f1, f2, f3, f4, f5⟩ := hf it (by simp)
    have hl := rv.length
    obtain ⟨x1, hot⟩ := hc.at I
    exact next_list_end_hot hot st p.isList (by simp; omega) fun h' eb => ⟨rfl, I.turned (t' := s.toks) (fun b o hb e => eb b o hb e) f0 f1 f3 f4 f5⟩
  self := fun _ _ _ _ _ st h => wpAny_pyIter_listiter st h
section
variable {X : Cx} {tg : Expr} {pos : Pos}
theorem pi_listH {l : Expr} {tl : TE} (hl : PE X l tl) : PIH X tg l (iList X.K tl) := by
  refine ⟨fun pins s σ H R I h => ?_⟩
  refine thn (hl.run pins s σ H _ I h) fun v s1 ⟨x, H1, I1, r1, q1⟩ => ?_
  obtain ⟨a, e, ⟨xs, hq⟩, q⟩ := q1
  subst e
  cases r1
  obtain ⟨its, rv, p, hz⟩ := I1.list hq
  refine wpAny_pyIter_list p.isList ?_
  refine ⟨s1.heap.objs.size, [s1.heap.objs.size], _, _, H1, rfl, I1.kept (t' := s1.toks) fun b o e => Heap.get?_push_of_some _ e, turn_listH a _, ⟨_, Heap.get?_push_size _ rfl, rfl, rfl⟩, fun b hb => ?_, q⟩
  have e : b = s1.heap.objs.size := by simpa using hb
  subst e
  exact I1.fpOk (Nat.le_refl _) (I1.hok.fresh (Nat.le_refl _))
theorem pg_tupH {es : List Expr} {k : Nat} {t : TGs} {n : Nat} (hc : HotC X) (h : PGs X es t)
    (hn : (assignEach es X.env).length = n := by rfl) (hst : (assignEach es X.env).findIdx? (·.1) = none := by rfl) : PG X (.Tuple es k pos) (gTup X.K n t) := by
  refine ⟨fun pins s σ H v u Q I r hw => ?_⟩
  obtain ⟨a, xs, e1, hq, hl, hw⟩ := hw
  subst e1
  cases r
  obtain ⟨its, rv, ht, hz⟩ := I.tuple hq
  obtain ⟨x1, hot⟩ := hc.at I
  refine assign_Tuple_tupleH hot ht (by simp [hn, ← hl, rv.length]) hst fun h' hx => ?_
  have I1 : Inv X pins σ H { s with heap := h' } := I.kept (t' := s.toks) fun b o e => hx b o (Nat.ne_of_lt (Heap.lt_size e)) e
  exact h.run pins _ σ H xs _ Q I1 (by simpa using rv) hw
end
/-- a block's context, the handled exception kept in sight -/
abbrev blkN (X : Cx) (s : Shared) (H : Hp) (scope : Scope) (cenv : Env) (fp : List Addr) : Cx := { X.blk s H scope cenv fp with pn := X.pn }
abbrev BkH (X : Cx) (scope : Scope) (s : Shared) (H : Hp) (C : Addr) (cl : List (Str × Addr)) (fp : List Addr) : Cx := blkN X s H scope (compEnvC scope cl C X.env) fp
section
variable {X : Cx}
theorem inv_pn {Y : Cx} {pins : List (Addr × Obj)} {σ : L2.St} {H : Hp} {s : Shared} (I : Inv Y pins σ H s) (pn : List (Addr × Obj)) (h : ∀ p ∈ pn ++ pins, s.heap.get? p.1 = some p.2 ∧ H p.1 = none ∧ p.1 ≠ Y.env.locals ∧ p.1 ∉ Y.fs ∧ ∀ v, p.2.data ≠ .cell v) : Inv { Y with pn := pn } pins σ H s :=
  ⟨⟨I.ok.mod, I.ok.kind, I.ok.glob, I.ok.blt, I.ok.above, I.ok.inj, I.ok.has, I.ok.cab, I.ok.hd, I.ok.frames, I.ok.stk, I.ok.exf, I.ok.bs, I.ok.bsz, I.ok.noex, I.ok.exfs, I.ok.funs, I.ok.frf⟩, I.os, I.bare, I.base, I.loc, I.cell, I.free, I.freeC, h, I.hok, I.len⟩
theorem lc_coreH {pins : List (Addr × Obj)} {s : Shared} {σ : L2.St} {H : Hp} {Q : VK} {elt tg iter : Expr} {ifs : List Expr} {scope : Scope} {own : List (Str × Nat)} {pos pos' : Pos} {wi : TI} {g : TG} {tt : TT} {te : TE} {use : Option (Value → Sem Unit)} {Qf : Value → Shared → Prop}
    (hc : HotC X) (hN : X.N.Nodup) (I : Inv X pins σ H s) (hi : PIH X tg iter wi) (ok : BlkOk X.N X.env.scope scope own)
    (hg : ∀ (s : Shared) (H : Hp) (C : Addr) (cl : List (Str × Addr)) (fp : List Addr), PG (blkN X s H scope (compEnvC scope cl C X.env) fp) tg g) (ht : ∀ (s : Shared) (H : Hp) (C : Addr) (cl : List (Str × Addr)) (fp : List Addr), PTs (blkN X s H scope (compEnvC scope cl C X.env) fp) ifs tt)
    (he : ∀ (s : Shared) (H : Hp) (C : Addr) (cl : List (Str × Addr)) (fp : List Addr), PE (blkN X s H scope (compEnvC scope cl C X.env) fp) elt te) (hs : ∀ x, foldedSetIterable iter X.env x = pure x)
    (h : tLc wi g tt te (own.map (·.2)) σ H Q)
    (hRR : ∀ D C s' m H', Inv X pins σ H' s' → Q (.ref D) H' → s'.heap.Ns C m → FpOk X pins H' C → compPost (model X.prog X.w) X.A X.xe use Qf (.ref D) C (.ok .next) s') :
    wpAny (model X.prog X.w) X.A (comprehension (.ListComp elt [⟨tg, iter, ifs, 0⟩] scope pos) scope X.env pos' (newList []) false (eval iter X.env) use) Qf X.xe s := by
  have hfree : ∀ y ∈ scope.names, y.2 = .free → ∃ c, X.env.cells.lookup y.1 = some c := fun y hy e => by
    rcases ok.free y hy e with k | k
    · exact I.ok.has _ (.inl k)
    · exact I.ok.has _ (.inr k)
  refine wpAny_comprehension_free (use := use) rfl hs (closure_ok hfree) ok.kind (fun y hy e => by rw [ok.uniq y hy, e])
    (thn (hi.run pins s σ H _ I h) fun xv s1 hx => thn hx fun itv s2 h2 => ?_)
  obtain ⟨it, fp, tn, J, H2, e, I2, T, st2, f2, q⟩ := h2
  subst e
  refine wpAny_newObj_type (newEnv_comp ?_) (by show 0 ≤ sizeLine; decide)
  generalize hD : s2.heap.objs.size = D
  have hDn : H2 D = none := I2.hok.fresh (Nat.le_of_eq hD)
  obtain ⟨W, ⟨m0, w0⟩, turn⟩ := q D hDn
  -- the new list
  generalize hs3 : ({ s2 with heap := s2.heap.push { cls := .type "list", data := .seq ([] : List Value).toArray } } : Shared) = s3
  have I3 : Inv X pins σ (upd H2 D (.lst [])) s3 := by
    rw [← hs3]
    refine I2.laid (t' := s2.toks) (fun b o e => Heap.get?_push_of_some _ e) (Nat.le_of_eq hD) ⟨Nat.zero_le _, [], 0, .nil, ?_⟩
    rw [← hD]
    exact Heap.get?_push_size _ rfl
  have h3 : s3.heap = s2.heap.push { cls := .type "list", data := .seq ([] : List Value).toArray } := by rw [← hs3]
  have sz : ∀ b ∈ fp, b < s2.heap.objs.size := fun b hb => by
    obtain ⟨o, e, _⟩ := T.obj _ _ st2 b hb
    exact Heap.lt_size e
  have f3 : ∀ b ∈ fp, FpOk X pins (upd H2 D (.lst [])) b ∧ b < s3.heap.objs.size := fun b hb => by
    have hlt := sz b hb
    refine ⟨⟨?_, (f2 b hb).2⟩, by rw [h3, Heap.size_push]; exact Nat.lt_succ_of_lt hlt⟩
    rw [upd_ne (by rw [← hD]; exact Nat.ne_of_lt hlt)]
    exact (f2 b hb).1
  have st3 : tn 0 s3.heap := T.keep _ _ _ st2 fun b _ o e => by rw [h3]; exact Heap.get?_push_of_some _ e
  have I4 : Inv (blkN X s3 (upd H2 D (.lst [])) scope (compEnvC scope (cellsFrom (s3.heap.objs.size + 1) scope.names (cloFrom X.env.cells scope.names [])) s3.heap.objs.size X.env) fp) [] (wipe σ (own.map (·.2))) (upd H2 D (.lst [])) { s3 with heap := pushCells (s3.heap.push { cls := .type "dict", data := .dict #[] }) scope.names } := inv_pn (block_start I3 ok hN f3) X.pn fun p hp => by
    have P1 := I3.pin p (List.mem_append_left _ (by simpa using hp))
    exact ⟨pushCells_keeps _ _ _ _ (Heap.get?_push_of_some _ P1.1), P1.2.1, Nat.ne_of_lt (Heap.lt_size P1.1), fun hm => (List.mem_cons.mp (I3.stkSub p.1 hm)).elim P1.2.2.1 P1.2.2.2.1, P1.2.2.2.2⟩
  have pg := hg s3 (upd H2 D (.lst [])) s3.heap.objs.size (cellsFrom (s3.heap.objs.size + 1) scope.names (cloFrom X.env.cells scope.names [])) fp
  have pt := ht s3 (upd H2 D (.lst [])) s3.heap.objs.size (cellsFrom (s3.heap.objs.size + 1) scope.names (cloFrom X.env.cells scope.names [])) fp
  have pe := he s3 (upd H2 D (.lst [])) s3.heap.objs.size (cellsFrom (s3.heap.objs.size + 1) scope.names (cloFrom X.env.cells scope.names [])) fp
  show codeAny _ _ (.compStart (.ListComp elt [⟨tg, iter, ifs, 0⟩] scope pos) 0 (.ref it) (.ref D) (compEnvC scope (cellsFrom (s3.heap.objs.size + 1) scope.names (cloFrom X.env.cells scope.names [])) s3.heap.objs.size X.env)) (compPost (model X.prog X.w) X.A X.xe use Qf (.ref D) s3.heap.objs.size) { s3 with heap := pushCells (s3.heap.push { cls := .type "dict", data := .dict #[] }) scope.names }
  have nfp : ∀ b ∈ fp, (upd H2 D (.lst [])) b = none := fun b hb => (f3 b hb).1.1
  generalize hce : compEnvC scope (cellsFrom (s3.heap.objs.size + 1) scope.names (cloFrom X.env.cells scope.names [])) s3.heap.objs.size X.env = ce at I4 pg pt pe ⊢
  have cL : ce.locals = s3.heap.objs.size := by subst hce; rfl
  generalize hH3 : upd H2 D (.lst []) = H3 at I3 I4 pg pt pe w0 nfp f3
  generalize hs4 : ({ s3 with heap := pushCells (s3.heap.push { cls := .type "dict", data := .dict #[] }) scope.names } : Shared) = s4 at I4 ⊢
  have st4 : tn 0 s4.heap := T.keep _ _ _ st3 fun b _ o e => by rw [← hs4]; exact pushCells_keeps _ _ _ _ (Heap.get?_push_of_some _ e)
  have stat : ∀ {σ' : L2.St} {H' : Hp} {s' : Shared}, Inv (blkN X s3 H3 scope ce fp) [] σ' H' s' → (∀ b ∈ fp, H' b = none) → ∀ b ∈ fp, FpOk (blkN X s3 H3 scope ce fp) [] H' b := fun {σ' H' s'} I' hn b hb =>
    ⟨hn b hb, (I'.ok.exf b hb).1, I'.ok.exfs b hb, .inl hb, fun x c e => (I'.ok.exf b hb).2 x c e, fun p hp => (f3 b hb).1.2.2.2.2.2 p (List.mem_append_left _ (by simpa using (show p ∈ X.pn ++ ([] : List (Addr × Obj)) from hp)))⟩
  have loop : codeAny (model X.prog X.w) X.A (.compLoop (.ListComp elt [⟨tg, iter, ifs, 0⟩] scope pos) 0 (.ref it) (.ref D) ce) (compPost (model X.prog X.w) X.A X.xe use Qf (.ref D) s3.heap.objs.size) s4 := by
    refine compLoop_any (fun n s' => ∃ i H', Inv (blkN X s3 H3 scope ce fp) [] (wipe σ (own.map (·.2))) H' s' ∧ tn i s'.heap ∧ (∀ b ∈ fp, H' b = none) ∧ W i n H') ?_ m0 ⟨0, H3, I4, st4, nfp, w0⟩
    rintro n s5 ⟨i, H5, I5, st5, n5, w5⟩
    rcases turn i n H5 w5 with ⟨stop, qq⟩ | ⟨go, Nx, hNx, step⟩
    · have td := T.done (blkN X s3 H3 scope ce fp) rfl rfl rfl hc i [] s5 _ H5 (fun _ _ => False) I5 (stat I5 n5) st5 stop
      refine thnF td fun r s6 ⟨hr, I6⟩ => ?_
      subst hr
      -- back in the def's context
      have I7 : Inv X pins σ H5 s6 := I3.call' (ch := fp) I6.os I6.base I6.hok I6.bare fun b hb => ⟨(f3 b hb).1.2.2.2.1, (f3 b hb).1.2.1, (f3 b hb).1.2.2.2.2.1, (f3 b hb).1.2.2.2.2.2⟩
      have nC : H5 s3.heap.objs.size = none := by
        have z : H5 ce.locals = none := I6.free
        rw [cL] at z
        exact z
      obtain ⟨m, hn, _⟩ := I6.loc
      have hn : s6.heap.Ns ce.locals m := hn
      rw [cL] at hn
      exact hRR D s3.heap.objs.size s6 m H5 I7 qq hn (I3.fpOk (Nat.le_refl _) nC)
    · have ti := T.item (blkN X s3 H3 scope ce fp) rfl rfl rfl hc i [] s5 _ H5 (fun _ _ => False) I5 (stat I5 n5) st5 go
      refine thnF ti fun r s6 ⟨u, hr, h6⟩ => ?_
      subst hr
      refine thnF h6 fun _ s7 ⟨x, H7, I7, r7, y7, st7, n7⟩ => ?_
      have I7' := I7.pinned (stat I7 n7) (T.obj _ _ st7)
      refine thnF (pg.run _ s7 _ H7 x u _ I7' r7 (step x H7 y7)) fun _ s8 ⟨σ8, H8, I8, hw8, q8⟩ => ?_
      refine thnF (pt.run _ s8 σ8 H8 _ I8 q8) fun b s9 ⟨H9, I9, q9⟩ => ?_
      -- the turn's end
      have fin : ∀ {s' : Shared} {H' : Hp}, Inv (blkN X s3 H3 scope ce fp) ([] ++ pinsAt fp s7.heap) σ8 H' s' → Nx H' → ∃ m, m < n ∧ ∃ i H', Inv (blkN X s3 H3 scope ce fp) [] (wipe σ (own.map (·.2))) H' s' ∧ tn i s'.heap ∧ (∀ b ∈ fp, H' b = none) ∧ W i m H' := fun {s' H'} I' nx => by
        obtain ⟨m', hm, w'⟩ := hNx H' nx
        have pin' : ∀ b ∈ fp, ∀ o, s7.heap.get? b = some o → s'.heap.get? b = some o ∧ H' b = none := fun b hb o e =>
          let z := I'.pin (b, o) (List.mem_append_right _ (List.mem_append_right _ (mem_pinsAt hb e)))
          ⟨z.1, z.2.1⟩
        have hl : (wipe σ (own.map (·.2))).length = σ8.length := by rw [← hw8, wipe_length]
        refine ⟨m', hm, i + 1, H', (I'.unpinned (pins := [])).weak hl (fun j v e => ?_), T.keep _ _ _ st7 fun b hb o e => (pin' b hb o e).1, fun b hb => ?_, w'⟩
        · rw [← hw8] at e
          exact (wipe_some e).1
        · obtain ⟨o, e, _⟩ := T.obj _ _ st7 b hb
          exact (pin' b hb o e).2
      cases b with
      | false =>
        simp only [Bool.false_eq_true, if_false] at q9 ⊢
        exact fin I9 q9
      | true =>
        simp only [if_true] at q9 ⊢
        refine thnF (pe.run _ s9 σ8 H9 _ I9 q9) fun z s10 ⟨yv, H10, I10, r10, acc, hD10, hz10, nx⟩ => ?_
        exact app_ok (X := blkN X s3 H3 scope ce fp) I10 hD10 hz10 r10 fun s11 I11 => fin I11 nx
  exact codeAny_compStart_list loop (T.self X.A 0 _ _ _ st4 loop)
end
section
variable {X : Cx} {B : Bg} {Γ : List Sl} {e c tst : Expr} {k : Sl → Prop} {pos p1 : Pos} {G H : Hp} {σ : L2.St}
def tIH (X : Cx) (tg iter : Expr) : TI := fun σ H R => ∀ (pins : List (Addr × Obj)) (s : Shared), Inv X pins σ H s → wpAny (model X.prog X.w) X.A (eval iter X.env) (fun v s1 => wpAny (model X.prog X.w) X.A (pyIter v) (PIEH X pins σ tg R) X.xe s1) X.xe s
theorem piH_self {tg iter : Expr} : PIH X tg iter (tIH X tg iter) := ⟨fun pins s σ H R I h => h pins s I⟩
theorem tIH_of {tg iter : Expr} {t : TI} {R : It → Hp → Prop} (h : PIH X tg iter t) (q : t σ H R) : tIH X tg iter σ H R := fun pins s I => h.run pins s σ H R I q
structure EvIH (X : Cx) (B : Bg) (tg iter : Expr) (Γ : List Sl) (k : List PyData → Prop) : Prop where
  run : ∀ (σ : L2.St) (G H : Hp) (R : It → Hp → Prop), Ok B G H → EnvOk X.K B G H σ Γ → (∀ J G' H' ds, Grow B G H G' H' → Wk X.K B J ds G' → k ds → R J H') → tIH X tg iter σ H R
theorem ei_listH {tg iter : Expr} {k : List PyData → Prop} (h : EvE X B iter Γ (Sl.lst k)) : EvIH X B tg iter Γ k :=
  ⟨fun σ G H R o en cont => tIH_of (pi_listH pe_self) (h.run σ G H _ o en fun v G1 H1 r g re kr => by
    have key : ∃ G2 ds, Grow B G H G2 H1 ∧ Dp X.K G2 v (.list ds) ∧ k ds := by
      cases r with
      | d z =>
        cases z with
        | list ds => exact ⟨G1, ds, g, re.1, kr⟩
        | _ => exact kr.elim
      | ol ds =>
        obtain ⟨G2, d, g2, hd, rfl⟩ := re.toD (f := fun z => z = .list ds) g (show (PyData.list ds = PyData.list ds) from rfl)
        exact ⟨G2, ds, g2, hd, kr⟩
      | _ => exact kr.elim
    obtain ⟨G2, ds, g2, hd, kd⟩ := key
    obtain ⟨p, xs, e, hs, ha⟩ := Dp.lst_inv hd
    refine ⟨p, e, ⟨xs, SqL.ext g2.ok.ex hs⟩, cont _ G2 H1 ds g2 ⟨fun i H hi e => ?_, fun i G' H x H' _ o e y => ?_, fun H e => ?_⟩ kd⟩
    · rw [← DpAll.length ha] at hi
      exact ⟨xs, xs[i], SqL.ext e hs, List.getElem?_eq_getElem hi⟩
    · obtain ⟨rfl, y⟩ := y
      obtain ⟨d, hd, hx⟩ := DpAll.get ha (y xs (SqL.ext (e.trans o.ex) hs))
      exact ⟨d, G', hd, Grow.refl o, Dp.ext e _ _ hx⟩
    · exact ⟨xs, SqL.ext e hs, by rw [DpAll.length ha]; exact Nat.le_refl _⟩)⟩
theorem at_tupH {tgs : List Expr} {is : List Nat} {kk : Nat} {p1 : Pos} {ds : List PyData} {k : List Sl → Prop} (hc : HotC X) (h : AsgTs X B tgs is ds Γ k) (hn : (assignEach tgs X.env).length = ds.length := by rfl) (hst : (assignEach tgs X.env).findIdx? (·.1) = none := by rfl) : AsgT X B (.Tuple tgs kk p1) is (.tuple ds) Γ k :=
  ⟨fun σ G H v Q o en hd cont => by
    obtain ⟨p, xs, e, hs, ha⟩ := Dp.tup_inv hd
    exact tG_of (pg_tupH hc pgs_self hn hst) ⟨p, xs, e, SqT.ext o.ex hs, DpAll.length ha, h.run σ G H xs Q o en ha cont⟩⟩
/-- a comprehension's parts, in any block -/
def gBH (X : Cx) (scope : Scope) (tg : Expr) : TG := fun v σ H Q => ∀ s H0 C cl fp, tG (BkH X scope s H0 C cl fp) tg v σ H Q
def ttBH (X : Cx) (scope : Scope) (ifs : List Expr) : TT := fun σ H Q => ∀ s0 H0 C cl fp pins s, Inv (BkH X scope s0 H0 C cl fp) pins σ H s → wpAny (model X.prog X.w) X.A (forIn ifs true fun c r => if r = true then do let ok ← isTrue c (compEnvC scope cl C X.env) (eval c (compEnvC scope cl C X.env)); pure (ForInStep.yield ok) else pure (ForInStep.yield r)) (TP (BkH X scope s0 H0 C cl fp) pins σ Q) (BkH X scope s0 H0 C cl fp).xe s
def teBH (X : Cx) (scope : Scope) (elt : Expr) : TE := fun σ H Q => ∀ s H0 C cl fp, tE (BkH X scope s H0 C cl fp) elt σ H Q
def LcStepH (X : Cx) (B : Bg) (tg elt : Expr) (ifs : List Expr) (scope : Scope) (own : List (Str × Nat)) (is : List Nat) (Γ : List Sl) (k : Sl → Prop) (ds : List PyData) : Prop :=
  ∃ P : Nat → List PyData → Prop, P 0 [] ∧ ds.length ≤ 1000000 ∧ (∀ (i : Nat) d acc, ds[i]? = some d → P i acc → ∀ s H C cl fp, AsgT (BkH X scope s H C cl fp) B tg is d (wipeS Γ (own.map (·.2))) fun Γ2 =>
      ∀ s H C cl fp, EvTs (BkH X scope s H C cl fp) B ifs Γ2 fun t => if t = true then ∀ s H C cl fp, EvE (BkH X scope s H C cl fp) B elt Γ2 (Sl.dat fun y => P (i + 1) (acc ++ [y])) else P (i + 1) acc) ∧ ∀ acc, P ds.length acc → k (.ol acc)
theorem lc_readH {elt tg iter : Expr} {ifs : List Expr} {scope : Scope} (own : List (Str × Nat)) (is : List Nat) (his : ∀ i ∈ is, i ∈ own.map (·.2)) (h : EvIH X B tg iter Γ (LcStepH X B tg elt ifs scope own is Γ k)) (σ : L2.St) (G H : Hp) (Q : VK) (o : Ok B G H) (en : EnvOk X.K B G H σ Γ)
    (cont : ∀ v G' H' r, Grow B G H G' H' → Res X.K B H G' H' v r → k r → Q v H') : tLc (tIH X tg iter) (gBH X scope tg) (ttBH X scope ifs) (teBH X scope elt) (own.map (·.2)) σ H Q := by
  refine h.run σ G H _ o en fun J G1 H1 ds g wk ⟨P, p0, hlen, step, fin⟩ => ?_
  intro D hD
  have nbD : ¬ B D := g.ok.notfree hD
  have gD : G1 D = none := g.ok.ex.free hD
  have en1 := (en.grow g).wipe (own.map (·.2))
  -- what holds between two turns
  refine ⟨fun i m H' => m = ds.length - i ∧ i ≤ ds.length ∧ ∃ G' acc xs, Grow B G1 H1 G' H' ∧ G' D = none ∧ H' D = some (.lst xs) ∧ DpAll X.K G' xs acc ∧ acc.length ≤ i ∧ P i acc, ⟨ds.length, rfl, Nat.zero_le _, G1, [], [], Grow.newOwn g.ok hD _, gD, upd_same, .nil, Nat.le_refl _, p0⟩, ?_⟩
  rintro i m H' ⟨rfl, hi, G', acc, xs, g', gd, hd, da, hl, pi⟩
  have eg := g'.g
  by_cases hlt : i < ds.length
  · refine .inr ⟨wk.go i H' hlt (eg.trans g'.ok.ex), fun H2 => i + 1 ≤ ds.length ∧ ∃ G' acc xs, Grow B G1 H1 G' H2 ∧ G' D = none ∧ H2 D = some (.lst xs) ∧ DpAll X.K G' xs acc ∧ acc.length ≤ i + 1 ∧ P (i + 1) acc, fun H2 ⟨h1, q⟩ => ⟨ds.length - (i + 1), by omega, rfl, h1, q⟩, fun x H2 y => ?_⟩
    obtain ⟨z, G2, hz, g2, dz⟩ := wk.yl i G' H' x H2 hlt g'.ok eg y
    have g02 := g'.trans g2
    have gd2 := g2.n D _ hd gd
    have hd2 := g2.h D _ nbD hd
    have en2 := en1.grow g02
    intro s0 H0 C cl fp
    have st := step i z acc hz pi
    have hst := st s0 H0 C cl fp
    refine hst.run _ G2 H2 x _ g02.ok en2 dz fun Γ3 σ3 en3 ow3 sto3 k3 => ?_
    refine ⟨wipe_sto sto3 his |>.trans ?_, ?_⟩
    · apply List.ext_getElem?
      intro j
      by_cases hv : j ∈ own.map (·.2)
      · by_cases hj : j < σ.length
        · rw [wipe_in hv (by rw [wipe_length]; exact hj), wipe_in hv hj]
        · rw [List.getElem?_eq_none (by rw [wipe_length, wipe_length]; omega), List.getElem?_eq_none (by rw [wipe_length]; omega)]
      · rw [wipe_out hv]
    · intro s1 H10 C1 cl1 fp1 pins s I
      refine (k3 s1 H10 C1 cl1 fp1).run σ3 G2 H2 _ g02.ok en3 (fun t G4 H4 g4 k4 => ?_) pins s I
      have g04 := g02.trans g4
      cases t with
      | true =>
        rw [if_pos rfl] at k4 ⊢
        intro s5 H50 C5 cl5 fp5
        refine (EvD.of (k4 s5 H50 C5 cl5 fp5)).run σ3 G4 H4 _ g4.ok (en3.grow g4) fun v G6 H6 y g6 dy py => ?_
        have hd4 := g6.h D _ nbD (g4.h D _ nbD hd2)
        have gd4 := g6.n D _ (g4.h D _ nbD hd2) (g4.n D _ hd2 gd2)
        have hlx : xs.length = acc.length := DpAll.length da
        refine ⟨xs, hd4, ?_, hlt, G6, acc ++ [y], xs ++ [v], ⟨(g04.trans g6).g, fun a o nb e => ?_, (g04.trans g6).n, g6.ok.mut nbD gd4 _⟩, gd4, upd_same, DpAll.append (DpAll.ext (g2.g.trans (g4.g.trans g6.g)) _ _ da) (.cons dy .nil), ?_, py⟩
        · rw [hlx]
          exact Nat.lt_of_le_of_lt hl (Nat.lt_of_lt_of_le hlt (Nat.le_trans hlen (by decide)))
        · have na : a ≠ D := ne_of_none e hD
          rw [upd_ne na]
          exact (g04.trans g6).h a o nb e
        · rw [List.length_append]
          exact Nat.add_le_add_right hl 1
      | false =>
        rw [if_neg Bool.false_ne_true] at k4 ⊢
        exact ⟨hlt, G4, acc, xs, g04, g4.n D _ hd2 gd2, g4.h D _ nbD hd2, DpAll.ext (g2.g.trans g4.g) _ _ da, Nat.le_succ_of_le hl, k4⟩
  · have e : i = ds.length := by omega
    subst e
    refine .inl ⟨wk.stop H' (eg.trans g'.ok.ex), cont _ G' H' (.ol acc) (g.trans g') ⟨⟨D, xs, rfl, nbD, gd, hd, da⟩, fun _ p e => by cases e; exact g.free hD⟩ (fin acc pi)⟩
theorem pe_lcH {elt tg iter : Expr} {ifs : List Expr} {scope : Scope} {own : List (Str × Nat)} {pos : Pos} {wi : TI} {g : TG} {tt : TT} {te : TE} (hc : HotC X) (hN : X.N.Nodup) (hi : PIH X tg iter wi) (ok : BlkOk X.N X.env.scope scope own)
    (hg : ∀ (s : Shared) (H : Hp) (C : Addr) (cl : List (Str × Addr)) (fp : List Addr), PG (blkN X s H scope (compEnvC scope cl C X.env) fp) tg g) (ht : ∀ (s : Shared) (H : Hp) (C : Addr) (cl : List (Str × Addr)) (fp : List Addr), PTs (blkN X s H scope (compEnvC scope cl C X.env) fp) ifs tt)
    (he : ∀ (s : Shared) (H : Hp) (C : Addr) (cl : List (Str × Addr)) (fp : List Addr), PE (blkN X s H scope (compEnvC scope cl C X.env) fp) elt te) (hs : ∀ x, foldedSetIterable iter X.env x = pure x := by intro _; rfl) :
    PE X (.ListComp elt [⟨tg, iter, ifs, 0⟩] scope pos) (tLc wi g tt te (own.map (·.2))) := by
  refine ⟨fun pins s σ H Q I h => ?_⟩
  rw [eval_ListComp]
  refine lc_coreH hc hN I hi ok hg ht he hs h fun D C s' m H' I' q hn f => ⟨m, hn, fun h'' sb => ?_⟩
  obtain ⟨f0, f1, f2, f3, f4, f5⟩ := f
  exact ⟨.ref D, H', I'.turned (t' := s'.toks) (fun b o hb e => (sb.2 b hb).trans e) f0 f1 f3 f4 f5, rfl, q⟩
theorem ee_lcH {elt tg iter : Expr} {ifs : List Expr} {scope : Scope} (own : List (Str × Nat)) (is : List Nat) (hc : HotC X) (hN : X.N.Nodup) (ok : BlkOk X.N X.env.scope scope own) (his : ∀ i ∈ is, i ∈ own.map (·.2)) (h : EvIH X B tg iter Γ (LcStepH X B tg elt ifs scope own is Γ k))
    (hs : ∀ x, foldedSetIterable iter X.env x = pure x := by intro _; rfl) : EvE X B (.ListComp elt [⟨tg, iter, ifs, 0⟩] scope pos) Γ k :=
  ⟨fun σ G H Q o en cont => tE_of (pe_lcH (own := own) (g := gBH X scope tg) (tt := ttBH X scope ifs) (te := teBH X scope elt) hc hN piH_self ok (fun s H0 C cl fp => ⟨fun pins s' σ H v u Q I r h => h s H0 C cl fp pins s' u I r⟩) (fun s H0 C cl fp => ⟨fun pins s' σ H Q I h => h s H0 C cl fp pins s' I⟩) (fun s H0 C cl fp => ⟨fun pins s' σ H Q I h => h s H0 C cl fp pins s' I⟩) hs) (lc_readH own is his h σ G H Q o en cont)⟩
end
end Ab
/-! repr of a bool, `is not` of bools; the exception facts of law k01 -/
namespace Ab
open PySem PySem.Spec PyProof.Rows L2
section
variable {X : Cx} {B : Bg} {Γ : List Sl} {e a b : Expr} {k : Sl → Prop} {pos p1 : Pos}
theorem boot_reprB : bootBuiltins ("repr" : Str) = some (.builtin "repr") := by decide +kernel
theorem call_reprB : CallR X (.builtin "repr") (fun xs H Q => ∃ b : Bool, xs = [.bl b] ∧ Q (.str (if b then "True" else "False")) H) := by
  intro pins s σ H xs us Q I r h
  obtain ⟨b, rfl, q⟩ := h
  cases r with
  | cons ru rn =>
    cases rn
    cases ru
    exact PySem.P.repr_of_bool ⟨.str _, H, I.tok _, ⟨_, rfl⟩, q⟩
def reprB (b : Bool) : PyData := .str (if b then "True" else "False")
theorem eqv_reprB (a b : Bool) : PyData.eqv (reprB a) (reprB b) = decide (a = b) := by cases a <;> cases b <;> (unfold reprB; rw [PyData.eqv]; decide +kernel)
theorem sh_reprB (b : Bool) : SeqAt.shaped (reprB b) = true := by cases b <;> exact (Fl.str (n := 0) (by simp only [PyData.canLay0]; decide +kernel)).sh
/-- repr(e), e a bool -/
theorem ee_reprB (hm : X.mg "repr" = none) (h : EvE X B e Γ (Sl.bl fun b => k (.d (reprB b)))) (hg : Gl X "repr" := by rfl) (he : starEach [e] X.env = (false, eval e X.env) :: starEach [] X.env := by rfl) (hpl : (backTo pos (starEach [] X.env)).any (·.1) = false := by rfl) : EvE X B (.Call (.Name "repr" p1) [e] [] pos) Γ k :=
  ee_cb1 call_reprB hm boot_reprB (fun σ G H Q ok en cont => h.run σ G H _ ok en fun v G1 H1 r g re kr => by
    obtain ⟨b, rfl, q⟩ := bl_inv re kr
    exact ⟨b, rfl, cont (.str _) G1 H1 _ g (Res.dat (.str _)) q⟩) (by decide) (by decide) hg he hpl
theorem er_notBl (h : EvE X B a Γ (Sl.bl fun i => EvE X B b Γ (Sl.bl fun j => k (.d (.bool (!decide (i = j))))))) : EvR X B rNotB a b Γ k :=
  ⟨fun σ G H Q o en cont => h.run σ G H _ o en fun v G1 H1 r1 g1 re1 k1 => by
    obtain ⟨i, rfl, q1⟩ := bl_inv re1 k1
    refine q1.run σ G1 H1 _ g1.ok (en.grow g1) fun w G2 H2 r2 g2 re2 k2 => ?_
    obtain ⟨j, rfl, q2⟩ := bl_inv re2 k2
    exact ⟨i, j, rfl, rfl, cont _ G2 H2 _ (g1.trans g2) (Res.dat (.bl _)) q2⟩⟩
/-- e is not e2, bools -/
theorem et_isnB {f : Bool → Prop} (h : EvE X B a Γ (Sl.bl fun i => EvE X B b Γ (Sl.bl fun j => f (!decide (i = j))))) : EvT X B (.Compare a [.IsNot] [b] pos) Γ f := et_cop op_notBl (nomark _) (er_notBl h)
/-- bag[0][bag[1] % m + c:] -/
theorem ee_bagTail2 (i : Nat) {x : Str} {m c : Int} {j0 j1 jm jc : Nat} {q1 q2 q3 q4 q5 q6 q7 q8 q9 q10 q11 : Pos} (hg : Γ[i]? = some .bg) (hm : 0 < m) (hc0 : 0 ≤ c) (hm2 : m + c ≤ 300) (q : ∀ ps : List Int, 100 ≤ ps.length → ps.length ≤ 400 → (∀ p ∈ ps, 0 ≤ p ∧ p < 1000) → k (.ol (ps.map .int))) (hN : X.N[i]? = some x := by rfl) (hv : Vis X.env.scope x := by first | exact Or.inl rfl | exact Or.inr (Or.inl rfl) | exact Or.inr (Or.inr rfl))
    (hd : (x == ("__debug__" : Str)) = false := by decide) (hcd : (x == ("__classdict__" : Str)) = false := by decide) (hs0 : PlainIx (.Constant (.int 0) j0 q2) := by intro _ _; rfl) (hs1 : PlainIx (.Constant (.int 1) j1 q5) := by intro _ _; rfl) :
    EvE X B (.Subscript (.Subscript (.Name x q1) (.Constant (.int 0) j0 q2) q3) (.Slice (some (.BinOp (.BinOp (.Subscript (.Name x q4) (.Constant (.int 1) j1 q5) q6) .Mod (.Constant (.int m) jm q7) q8) .Add (.Constant (.int c) jc q10) q11)) none none q9) pos) Γ k :=
  ee_slL (EvL.of (ee_bag0 i hg (fun ns hl hr => lst_d (eo_some (ee_add (ee_mod (ee_bag1 i hg (fun b hb => ee_int (⟨hm, ee_int (eo_none (by
    have h0 := Int.emod_nonneg b (show m ≠ 0 by omega)
    have h1 := Int.emod_lt_of_pos b hm
    have e : cutD (ns.map PyData.int) (some (b % m + c)) none = (ns.map PyData.int).drop (b % m + c).toNat := by
      have := cutD_from (ns.map PyData.int) (b % m + c).toNat
      rwa [Int.toNat_of_nonneg (by omega)] at this
    rw [e, ← List.map_drop]
    exact q _ (by rw [List.length_drop]; omega) (by rw [List.length_drop]; omega) fun p hp => hr p (List.mem_of_mem_drop hp)))⟩)) hN hv hd hcd hs1))))) hN hv hd hcd hs0))
end
/-- what law k01 leans on -/
def exc01 (K : PySem.W.Frag) : Bool := (He.Fa.exc "NoBench").ok K && (excB K (gA K "NoBench") && (exmB K "NoBench" "NoDeed" false && (exmB K "NoBench" "TooMany" false && (exmB K "NoBench" "SeatError" true && (kitB' K "NoBench" "NoBench" true && (kitB' K "NoBench" "NoSitters" false && (kitB' K "NoBench" "NoSeat" false && (kitB' K "NoBench" "NoNumber" false && kitVE K "NoBench"))))))))
structure Exc01 (K : PySem.W.Frag) (mg : Str → Option Value) : Prop where
  nb : XCls0 K mg "NoBench" (gA K "NoBench")
  gd : mg "NoDeed" = some (.ref (gA K "NoDeed"))
  gt : mg "TooMany" = some (.ref (gA K "TooMany"))
  gs : mg "SeatError" = some (.ref (gA K "SeatError"))
  gi : mg "NoSitters" = some (.ref (gA K "NoSitters"))
  ge : mg "NoSeat" = some (.ref (gA K "NoSeat"))
  gn : mg "NoNumber" = some (.ref (gA K "NoNumber"))
  gv : mg "ValueError" = none
  ed : PySem.W.exmOne K (.ref (gA K "NoBench")) (.ref (gA K "NoDeed")) = some false
  et : PySem.W.exmOne K (.ref (gA K "NoBench")) (.ref (gA K "TooMany")) = some false
  es : PySem.W.exmOne K (.ref (gA K "NoBench")) (.ref (gA K "SeatError")) = some true
  kb : PySem.W.kitOne K (.ref (gA K "NoBench")) (.ref (gA K "NoBench")) = some true
  ki : PySem.W.kitOne K (.ref (gA K "NoBench")) (.ref (gA K "NoSitters")) = some false
  ke : PySem.W.kitOne K (.ref (gA K "NoBench")) (.ref (gA K "NoSeat")) = some false
  kn : PySem.W.kitOne K (.ref (gA K "NoBench")) (.ref (gA K "NoNumber")) = some false
  kv : PySem.W.kitOne K (.ref (gA K "NoBench")) (.type "ValueError") = some true
theorem exc01_ok {K : PySem.W.Frag} {mg : Str → Option Value} (h : exc01 K = true) (hb : mg "NoBench" = some (.ref (gA K "NoBench"))) (hd : mg "NoDeed" = some (.ref (gA K "NoDeed"))) (ht : mg "TooMany" = some (.ref (gA K "TooMany"))) (hs : mg "SeatError" = some (.ref (gA K "SeatError")))
    (hi : mg "NoSitters" = some (.ref (gA K "NoSitters"))) (he : mg "NoSeat" = some (.ref (gA K "NoSeat"))) (hn : mg "NoNumber" = some (.ref (gA K "NoNumber"))) (hv : mg "ValueError" = none) : Exc01 K mg := by
  obtain ⟨h0, h⟩ := He.ba h
  obtain ⟨h1, h⟩ := He.ba h
  obtain ⟨h2, h⟩ := He.ba h
  obtain ⟨h3, h⟩ := He.ba h
  obtain ⟨h4, h⟩ := He.ba h
  obtain ⟨h5, h⟩ := He.ba h
  obtain ⟨h6, h⟩ := He.ba h
  obtain ⟨h7, h⟩ := He.ba h
  obtain ⟨h8, h9⟩ := He.ba h
  obtain ⟨x1, x2, x3, x4⟩ := He.exc_ok h0
  exact ⟨⟨hb, x1, x2, x3, x4, (excB_ok h1).1⟩, hd, ht, hs, hi, he, hn, hv, of_decide_eq_true h2, of_decide_eq_true h3, of_decide_eq_true h4, of_decide_eq_true h5, of_decide_eq_true h6, of_decide_eq_true h7, of_decide_eq_true h8, of_decide_eq_true h9⟩
end Ab
namespace Sit
/-! ### the next one: by gaps, and seat by seat -/
structure Gap where
  l : Bool
  b : Int
  m : Int
  r : Bool
  deriving DecidableEq
def bestOf (g : Gap) : Int × Option Int :=
  if g.l = true then (if g.r = true then (g.b, none) else (g.b, some g.m)) else if g.r = true then (g.b + g.m - 1, some g.m) else (g.b + (g.m + 1) / 2 - 1, some ((g.m + 1) / 2))
def gapStep (n : Int) (p : Int × List Gap) (s : Int) : Int × List Gap := (s + 1, if p.1 < s then p.2 ++ [⟨decide (p.1 = 0), p.1, s - p.1, decide (s = n)⟩] else p.2)
def gapsF (n : Int) (ss : List Int) : List Gap := ((ss ++ [n]).foldl (gapStep n) (0, [])).2
def betterF (p q : Int × Option Int) : Int × Option Int := match q.2, p.2 with
  | some f, some g => if g < f then q else p
  | _, _ => p
def nextOf (n : Int) (ss : List Int) : Option (Int × Option Int) := match (gapsF n ss).map bestOf with
  | [] => none
  | p :: r => some (r.foldl betterF p)
theorem gapAcc_len (n : Int) (ss : List Int) : ∀ p : Int × List Gap, (ss.foldl (gapStep n) p).2.length ≤ p.2.length + ss.length := by
  induction ss with
  | nil => intro p; exact Nat.le_refl _
  | cons s r ih =>
    intro p
    have h := ih (gapStep n p s)
    have h2 : (gapStep n p s).2.length ≤ p.2.length + 1 := by
      unfold gapStep
      by_cases c : p.1 < s
      · simp [c]
      · simp [c]
    rw [List.foldl_cons, List.length_cons]
    omega
/-- rising seats of a bench -/
structure Rise (n : Int) (ss : List Int) : Prop where
  up : ss.Pairwise (· < ·)
  of : ∀ s ∈ ss, 0 ≤ s ∧ s < n
/-! how far -/
def absI (i : Int) : Int := if i < 0 then -i else i
theorem absI_of (i : Int) : absI i = i ∨ absI i = -i := by unfold absI; split <;> omega
theorem absI_le (i : Int) : i ≤ absI i ∧ -i ≤ absI i := by unfold absI; split <;> omega
structure IsDist (ss : List Int) (y f : Int) : Prop where
  at_ : ∃ s ∈ ss, absI (y - s) = f
  le : ∀ s ∈ ss, f ≤ absI (y - s)
theorem IsDist.uniq {ss : List Int} {y f g : Int} (a : IsDist ss y f) (b : IsDist ss y g) : f = g := by
  obtain ⟨s, hs, e⟩ := a.at_
  obtain ⟨t, ht, e2⟩ := b.at_
  have h1 := a.le t ht
  have h2 := b.le s hs
  omega
def dist (ss : List Int) (y : Int) : Int := match ss with
  | [] => 0
  | s :: r => r.foldl (fun m t => if absI (y - t) < m then absI (y - t) else m) (absI (y - s))
theorem dist_fold (y : Int) : ∀ (r : List Int) (m : Int), (r.foldl (fun m t => if absI (y - t) < m then absI (y - t) else m) m = m ∨ ∃ t ∈ r, absI (y - t) = r.foldl (fun m t => if absI (y - t) < m then absI (y - t) else m) m) ∧ r.foldl (fun m t => if absI (y - t) < m then absI (y - t) else m) m ≤ m ∧ ∀ t ∈ r, r.foldl (fun m t => if absI (y - t) < m then absI (y - t) else m) m ≤ absI (y - t)
  | [], m => ⟨.inl rfl, Int.le_refl _, by simp⟩
  | t :: r, m => by
    have ih := dist_fold y r (if absI (y - t) < m then absI (y - t) else m)
    simp only [List.foldl_cons]
    generalize List.foldl (fun m t => if absI (y - t) < m then absI (y - t) else m) (if absI (y - t) < m then absI (y - t) else m) r = z at ih
    obtain ⟨h1, h2, h3⟩ := ih
    by_cases c : absI (y - t) < m
    · rw [if_pos c] at h1 h2
      refine ⟨.inr ?_, by omega, fun u hu => ?_⟩
      · rcases h1 with h1 | ⟨u, hu, e⟩
        · exact ⟨t, List.mem_cons_self, h1.symm⟩
        · exact ⟨u, List.mem_cons_of_mem _ hu, e⟩
      · rcases List.mem_cons.mp hu with e | hu
        · rw [e]; exact h2
        · exact h3 u hu
    · rw [if_neg c] at h1 h2
      refine ⟨?_, h2, fun u hu => ?_⟩
      · rcases h1 with h1 | ⟨u, hu, e⟩
        · exact .inl h1
        · exact .inr ⟨u, List.mem_cons_of_mem _ hu, e⟩
      · rcases List.mem_cons.mp hu with e | hu
        · rw [e]; omega
        · exact h3 u hu
theorem dist_is {ss : List Int} (h : ss ≠ []) (y : Int) : IsDist ss y (dist ss y) := by
  cases ss with
  | nil => exact absurd rfl h
  | cons s r =>
    have q := dist_fold y r (absI (y - s))
    refine ⟨?_, fun u hu => ?_⟩
    · rcases q.1 with e | ⟨t, ht, e⟩
      · exact ⟨s, List.mem_cons_self, e.symm⟩
      · exact ⟨t, List.mem_cons_of_mem _ ht, e⟩
    · rcases List.mem_cons.mp hu with e | hu
      · rw [e]; exact q.2.1
      · exact q.2.2 u hu
theorem dist_eq {ss : List Int} {y f : Int} (h : IsDist ss y f) : dist ss y = f := by
  have hn : ss ≠ [] := by
    obtain ⟨s, hs, _⟩ := h.at_
    exact List.ne_nil_of_mem hs
  exact (dist_is hn y).uniq h
/-! seat by seat -/
def farOf (ss : List Int) (y : Int) : Option Int := if ss = [] then none else some (dist ss y)
def lawStep (ss : List Int) (o : Option (Int × Option Int)) (y : Int) : Option (Int × Option Int) :=
  if y ∈ ss then o else match o with
    | none => some (y, farOf ss y)
    | some p => some (betterF p (y, farOf ss y))
theorem lawStep_none {ss : List Int} {y : Int} (h : ¬ y ∈ ss) : lawStep ss none y = some (y, farOf ss y) := by unfold lawStep; rw [if_neg h]
theorem lawStep_some {ss : List Int} {y : Int} {p : Int × Option Int} (h : ¬ y ∈ ss) : lawStep ss (some p) y = some (betterF p (y, farOf ss y)) := by unfold lawStep; rw [if_neg h]
def lawNext (n : Int) (ss : List Int) : Option (Int × Option Int) := ((List.range n.toNat).map fun i : Nat => (i : Int)).foldl (lawStep ss) none
/-- the farthest of the free seats of S, the leftmost of them -/
structure Best (ss : List Int) (S : Int → Prop) (x f : Int) : Prop where
  at_ : S x
  free : x ∉ ss
  d : dist ss x = f
  max : ∀ y, S y → y ∉ ss → dist ss y ≤ f ∧ (dist ss y = f → x ≤ y)
theorem Best.uniq {ss : List Int} {S : Int → Prop} {x f x' f' : Int} (a : Best ss S x f) (b : Best ss S x' f') : x = x' ∧ f = f' := by
  have h1 := a.max x' b.at_ b.free
  have h2 := b.max x a.at_ a.free
  have h3 := a.d
  have h4 := b.d
  have e : f = f' := by omega
  exact ⟨by have := h1.2 (by omega); have := h2.2 (by omega); omega, e⟩
abbrev Below (n : Int) : Int → Prop := fun y => 0 ≤ y ∧ y < n
/-- what the search seat by seat finds below i -/
theorem law_to {ss : List Int} (hne : ss ≠ []) : ∀ i : Nat, match ((List.range i).map fun i : Nat => (i : Int)).foldl (lawStep ss) none with
    | none => ∀ y : Int, 0 ≤ y → y < i → y ∈ ss
    | some (x, none) => False
    | some (x, some f) => Best ss (Below i) x f := by
  intro i
  induction i with
  | zero => intro y h0 h1; omega
  | succ i ih =>
    rw [List.range_succ, List.map_append, List.foldl_append]
    generalize ((List.range i).map fun i : Nat => (i : Int)).foldl (lawStep ss) none = o at ih
    show match lawStep ss o (i : Int) with
      | none => ∀ y : Int, 0 ≤ y → y < ((i + 1 : Nat) : Int) → y ∈ ss
      | some (x, none) => False
      | some (x, some f) => Best ss (Below ((i + 1 : Nat) : Int)) x f
    unfold lawStep farOf
    rw [if_neg hne]
    by_cases hm : (i : Int) ∈ ss
    · rw [if_pos hm]
      match o, ih with
      | none, ih =>
        intro y h0 h1
        by_cases e : y = i
        · rw [e]; exact hm
        · exact ih y h0 (by omega)
      | some (x, none), ih => exact ih
      | some (x, some f), ih =>
        refine ⟨⟨ih.at_.1, by have := ih.at_.2; omega⟩, ih.free, ih.d, fun y ⟨h0, h1⟩ hy => ?_⟩
        by_cases e : y = i
        · rw [e] at hy; exact absurd hm hy
        · exact ih.max y ⟨h0, by omega⟩ hy
    · rw [if_neg hm]
      match o, ih with
      | none, ih =>
        refine ⟨⟨by omega, by omega⟩, hm, rfl, fun y ⟨h0, h1⟩ hy => ?_⟩
        by_cases e : y = i
        · subst e; exact ⟨Int.le_refl _, fun _ => Int.le_refl _⟩
        · exact absurd (ih y h0 (by omega)) hy
      | some (x, none), ih => exact ih.elim
      | some (x, some f), ih =>
        have eb : betterF (x, some f) ((i : Int), some (dist ss (i : Int))) = if f < dist ss (i : Int) then ((i : Int), some (dist ss (i : Int))) else (x, some f) := rfl
        simp only []
        rw [eb]
        by_cases c : f < dist ss (i : Int)
        · rw [if_pos c]
          refine ⟨⟨by omega, by omega⟩, hm, rfl, fun y ⟨h0, h1⟩ hy => ?_⟩
          by_cases e : y = i
          · subst e; exact ⟨Int.le_refl _, fun _ => Int.le_refl _⟩
          · have := ih.max y ⟨h0, by omega⟩ hy
            exact ⟨by omega, fun z => by omega⟩
        · rw [if_neg c]
          refine ⟨⟨ih.at_.1, by have := ih.at_.2; omega⟩, ih.free, ih.d, fun y ⟨h0, h1⟩ hy => ?_⟩
          by_cases e : y = i
          · subst e
            have := ih.at_.2
            exact ⟨by omega, fun _ => by omega⟩
          · exact ih.max y ⟨h0, by omega⟩ hy
/-! the gaps -/
structure GapOf (n : Int) (ss : List Int) (g : Gap) : Prop where
  m : 0 < g.m
  b : 0 ≤ g.b
  e : g.b + g.m ≤ n
  l : g.l = decide (g.b = 0)
  r : g.r = decide (g.b + g.m = n)
  lm : g.b ≠ 0 → g.b - 1 ∈ ss
  rm : g.b + g.m ≠ n → g.b + g.m ∈ ss
  free : ∀ y, g.b ≤ y → y < g.b + g.m → y ∉ ss
def gapsR (n : Int) : Int → List Int → List Gap
  | _, [] => []
  | b, s :: r => (if b < s then [⟨decide (b = 0), b, s - b, decide (s = n)⟩] else []) ++ gapsR n (s + 1) r
theorem gaps_fold (n : Int) : ∀ (l : List Int) (b : Int) (acc : List Gap), (l.foldl (gapStep n) (b, acc)).2 = acc ++ gapsR n b l
  | [], b, acc => by simp [gapsR]
  | s :: r, b, acc => by
    rw [List.foldl_cons]
    show (r.foldl (gapStep n) (s + 1, if b < s then acc ++ [⟨decide (b = 0), b, s - b, decide (s = n)⟩] else acc)).2 = _
    rw [gaps_fold n r]
    rw [gapsR]
    by_cases c : b < s
    · rw [if_pos c, if_pos c, List.append_assoc]
    · rw [if_neg c, if_neg c]
      simp
theorem gapsF_eq (n : Int) (ss : List Int) : gapsF n ss = gapsR n 0 (ss ++ [n]) := by
  unfold gapsF
  rw [gaps_fold]
  simp
/-- from b on, l sits; ahead of b all is told -/
theorem gapsR_of {n : Int} {ss : List Int} : ∀ (l pre : List Int) (b : Int), ss = pre ++ l → Rise n ss → 0 ≤ b → b ≤ n → (∀ s ∈ pre, s < b) → (∀ s ∈ l, b ≤ s) → (b ≠ 0 → b - 1 ∈ ss) →
    (∀ g ∈ gapsR n b (l ++ [n]), GapOf n ss g ∧ b ≤ g.b) ∧ (gapsR n b (l ++ [n])).Pairwise (fun g h => g.b + g.m ≤ h.b) ∧ ∀ y, b ≤ y → y < n → y ∉ ss → ∃ g ∈ gapsR n b (l ++ [n]), g.b ≤ y ∧ y < g.b + g.m
  | [], pre, b, e, hR, h0, hn, hp, hl, hb => by
    have es : ss = pre := by rw [e, List.append_nil]
    show (∀ g ∈ (if b < n then [(⟨decide (b = 0), b, n - b, decide (n = n)⟩ : Gap)] else []) ++ [], _) ∧ ((if b < n then [(⟨decide (b = 0), b, n - b, decide (n = n)⟩ : Gap)] else []) ++ []).Pairwise _ ∧ ∀ y, b ≤ y → y < n → y ∉ ss → ∃ g ∈ (if b < n then [(⟨decide (b = 0), b, n - b, decide (n = n)⟩ : Gap)] else []) ++ [], _
    rw [List.append_nil]
    by_cases c : b < n
    · rw [if_pos c]
      refine ⟨fun g hg => ?_, by simp, fun y h1 h2 _ => ⟨_, List.mem_singleton.mpr rfl, h1, by show y < b + (n - b); omega⟩⟩
      rw [List.mem_singleton.mp hg]
      refine ⟨⟨by show 0 < n - b; omega, h0, by show b + (n - b) ≤ n; omega, rfl, ?_, hb, fun z => ?_, fun y h1 h2 hy => ?_⟩, Int.le_refl _⟩
      · show decide (n = n) = decide (b + (n - b) = n)
        rw [decide_eq_true rfl, decide_eq_true (by omega)]
      · have z' : b + (n - b) ≠ n := z
        omega
      · rw [es] at hy
        have := hp y hy
        have h1' : b ≤ y := h1
        omega
    · rw [if_neg c]
      exact ⟨by simp, by simp, fun y h1 h2 _ => by omega⟩
  | s :: r, pre, b, e, hR, h0, hn, hp, hl, hb => by
    have hs : s ∈ ss := by rw [e]; simp
    have hsb := hl s List.mem_cons_self
    have hsn := hR.of s hs
    have hup := hR.up
    rw [e] at hup
    obtain ⟨_, hup2, hcross⟩ := List.pairwise_append.mp hup
    obtain ⟨hsr, _⟩ := List.pairwise_cons.mp hup2
    have ih := gapsR_of r (pre ++ [s]) (s + 1) (by rw [e]; simp) hR (by omega) (by omega) (fun t ht => by
      rcases List.mem_append.mp ht with z | z
      · have := hcross t z s List.mem_cons_self
        omega
      · rw [List.mem_singleton.mp z]; omega) (fun t ht => by have := hsr t ht; omega) (fun _ => by rw [Int.add_sub_cancel]; exact hs)
    obtain ⟨ih1, ih2, ih3⟩ := ih
    have free : ∀ y, b ≤ y → y < s → y ∉ ss := fun y h1 h2 hy => by
      rw [e] at hy
      rcases List.mem_append.mp hy with z | z
      · have := hp y z; omega
      · rcases List.mem_cons.mp z with z | z
        · omega
        · have := hsr y z; omega
    rw [List.cons_append, gapsR]
    by_cases c : b < s
    · rw [if_pos c]
      have gof : GapOf n ss ⟨decide (b = 0), b, s - b, decide (s = n)⟩ := by
        refine ⟨by show 0 < s - b; omega, h0, by show b + (s - b) ≤ n; omega, rfl, ?_, hb, fun _ => ?_, fun y h1 h2 => ?_⟩
        · show decide (s = n) = decide (b + (s - b) = n)
          have : b + (s - b) = s := by omega
          rw [this]
        · show b + (s - b) ∈ ss
          have : b + (s - b) = s := by omega
          rw [this]; exact hs
        · have h2' : y < b + (s - b) := h2
          exact free y h1 (by omega)
      refine ⟨fun g hg => ?_, ?_, fun y h1 h2 hy => ?_⟩
      · rcases List.mem_append.mp hg with z | z
        · rw [List.mem_singleton.mp z]
          exact ⟨gof, Int.le_refl _⟩
        · obtain ⟨q1, q2⟩ := ih1 g z
          exact ⟨q1, by omega⟩
      · refine List.pairwise_append.mpr ⟨by simp, ih2, fun g hg h hh => ?_⟩
        rw [List.mem_singleton.mp hg]
        have := (ih1 h hh).2
        show b + (s - b) ≤ h.b
        omega
      · by_cases hys : y < s
        · exact ⟨_, List.mem_append_left _ (List.mem_singleton.mpr rfl), h1, by show y < b + (s - b); omega⟩
        · have : y ≠ s := fun z => hy (z ▸ hs)
          obtain ⟨g, hg, q⟩ := ih3 y (by omega) h2 hy
          exact ⟨g, List.mem_append_right _ hg, q⟩
    · rw [if_neg c, List.nil_append]
      have ebs : b = s := by omega
      refine ⟨fun g hg => ?_, ih2, fun y h1 h2 hy => ?_⟩
      · obtain ⟨q1, q2⟩ := ih1 g hg
        exact ⟨q1, by omega⟩
      · have : y ≠ s := fun z => hy (z ▸ hs)
        exact ih3 y (by omega) h2 hy
theorem gaps_of {n : Int} {ss : List Int} (hn : 0 ≤ n) (h : Rise n ss) : (∀ g ∈ gapsF n ss, GapOf n ss g) ∧ (gapsF n ss).Pairwise (fun g h => g.b + g.m ≤ h.b) ∧ ∀ y, 0 ≤ y → y < n → y ∉ ss → ∃ g ∈ gapsF n ss, g.b ≤ y ∧ y < g.b + g.m := by
  rw [gapsF_eq]
  obtain ⟨a, b, c⟩ := gapsR_of ss [] 0 rfl h (Int.le_refl _) hn (by simp) (fun s hs => (h.of s hs).1) (fun z => absurd rfl z)
  exact ⟨fun g hg => (a g hg).1, b, c⟩
/-- how far in a gap -/
theorem gap_dist {n : Int} {ss : List Int} {g : Gap} (h : Rise n ss) (G : GapOf n ss g) (ne : ¬ (g.l = true ∧ g.r = true)) {y : Int} (h1 : g.b ≤ y) (h2 : y < g.b + g.m) :
    dist ss y = if g.l = true then g.b + g.m - y else if g.r = true then y - g.b + 1 else if y - g.b + 1 ≤ g.b + g.m - y then y - g.b + 1 else g.b + g.m - y := by
  have out : ∀ s ∈ ss, s < g.b ∨ g.b + g.m ≤ s := fun s hs => by
    by_cases c : s < g.b
    · exact .inl c
    · by_cases c2 : g.b + g.m ≤ s
      · exact .inr c2
      · exact absurd hs (G.free s (by omega) (by omega))
  have hl := G.l
  have hr := G.r
  by_cases cl : g.b = 0
  · have el : g.l = true := by rw [hl, decide_eq_true cl]
    rw [if_pos el]
    have cr : g.b + g.m ≠ n := fun z => ne ⟨el, by rw [hr, decide_eq_true z]⟩
    have hs := G.rm cr
    refine dist_eq ⟨⟨_, hs, ?_⟩, fun s hs => ?_⟩
    · unfold absI; rw [if_pos (by omega)]; omega
    · have := h.of s hs
      rcases out s hs with z | z
      · omega
      · have := absI_le (y - s); omega
  · have el : ¬ g.l = true := by rw [hl, decide_eq_false cl]; decide
    rw [if_neg el]
    have hs := G.lm cl
    by_cases cr : g.b + g.m = n
    · have er : g.r = true := by rw [hr, decide_eq_true cr]
      rw [if_pos er]
      refine dist_eq ⟨⟨_, hs, ?_⟩, fun s hs => ?_⟩
      · unfold absI; rw [if_neg (by omega)]; omega
      · have := h.of s hs
        rcases out s hs with z | z
        · have := absI_le (y - s); omega
        · omega
    · have er : ¬ g.r = true := by rw [hr, decide_eq_false cr]; decide
      rw [if_neg er]
      have hs2 := G.rm cr
      by_cases c : y - g.b + 1 ≤ g.b + g.m - y
      · rw [if_pos c]
        refine dist_eq ⟨⟨_, hs, ?_⟩, fun s hs => ?_⟩
        · unfold absI; rw [if_neg (by omega)]; omega
        · have := absI_le (y - s)
          rcases out s hs with z | z <;> omega
      · rw [if_neg c]
        refine dist_eq ⟨⟨_, hs2, ?_⟩, fun s hs => ?_⟩
        · unfold absI; rw [if_pos (by omega)]; omega
        · have := absI_le (y - s)
          rcases out s hs with z | z <;> omega
/-- the seats of a gap -/
abbrev In (g : Gap) : Int → Prop := fun y => g.b ≤ y ∧ y < g.b + g.m
/-- the best of a gap -/
theorem gap_best {n : Int} {ss : List Int} {g : Gap} (h : Rise n ss) (G : GapOf n ss g) (ne : ¬ (g.l = true ∧ g.r = true)) : ∃ f, (bestOf g).2 = some f ∧ Best ss (In g) (bestOf g).1 f := by
  have hm := G.m
  have hd := fun y h1 h2 => gap_dist h G ne (y := y) h1 h2
  unfold bestOf
  by_cases cl : g.l = true
  · have cr : ¬ g.r = true := fun z => ne ⟨cl, z⟩
    rw [if_pos cl, if_neg cr]
    refine ⟨g.m, rfl, ⟨Int.le_refl _, by show g.b < g.b + g.m; omega⟩, G.free _ (Int.le_refl _) (by show g.b < g.b + g.m; omega), ?_, fun y ⟨h1, h2⟩ _ => ?_⟩
    · have := hd g.b (Int.le_refl _) (by omega)
      rw [if_pos cl] at this
      show dist ss g.b = g.m
      omega
    · have := hd y h1 h2
      rw [if_pos cl] at this
      show _ ∧ (_ → g.b ≤ y)
      omega
  · rw [if_neg cl]
    by_cases cr : g.r = true
    · rw [if_pos cr]
      refine ⟨g.m, rfl, ⟨by show g.b ≤ g.b + g.m - 1; omega, by show g.b + g.m - 1 < g.b + g.m; omega⟩, G.free _ (by show g.b ≤ g.b + g.m - 1; omega) (by show g.b + g.m - 1 < g.b + g.m; omega), ?_, fun y ⟨h1, h2⟩ _ => ?_⟩
      · have := hd (g.b + g.m - 1) (by omega) (by omega)
        rw [if_neg cl, if_pos cr] at this
        show dist ss (g.b + g.m - 1) = g.m
        omega
      · have := hd y h1 h2
        rw [if_neg cl, if_pos cr] at this
        show _ ∧ (_ → g.b + g.m - 1 ≤ y)
        omega
    · rw [if_neg cr]
      have h1 : g.b ≤ g.b + (g.m + 1) / 2 - 1 := by omega
      have h2 : g.b + (g.m + 1) / 2 - 1 < g.b + g.m := by omega
      refine ⟨(g.m + 1) / 2, rfl, ⟨h1, h2⟩, G.free _ h1 h2, ?_, fun y ⟨h1, h2⟩ _ => ?_⟩
      · have := hd _ h1 h2
        rw [if_neg cl, if_neg cr, if_pos (by omega)] at this
        show dist ss (g.b + (g.m + 1) / 2 - 1) = (g.m + 1) / 2
        omega
      · have := hd y h1 h2
        rw [if_neg cl, if_neg cr] at this
        show _ ∧ (_ → g.b + (g.m + 1) / 2 - 1 ≤ y)
        split at this <;> omega
/-- no gap is the whole bench where somebody sits -/
theorem gap_told {n : Int} {ss : List Int} {g : Gap} (h : Rise n ss) (hne : ss ≠ []) (G : GapOf n ss g) : ¬ (g.l = true ∧ g.r = true) := fun ⟨a, b⟩ => by
  have hl := G.l
  have hr := G.r
  rw [a] at hl
  rw [b] at hr
  have h1 := of_decide_eq_true hl.symm
  have h2 := of_decide_eq_true hr.symm
  obtain ⟨s, hs⟩ := List.exists_mem_of_ne_nil ss hne
  have := h.of s hs
  exact G.free s (by omega) (by omega) hs
/-- the fold over gaps from the left -/
theorem better_fold {ss : List Int} : ∀ (gs : List Gap) (x1 f1 : Int) (S : Int → Prop), (∀ h ∈ gs, ∃ f, (bestOf h).2 = some f ∧ Best ss (In h) (bestOf h).1 f) → gs.Pairwise (fun g h => g.b + g.m ≤ h.b) → (∀ y, S y → ∀ h ∈ gs, y < h.b) → Best ss S x1 f1 →
    ∃ x' f', (gs.map bestOf).foldl betterF (x1, some f1) = (x', some f') ∧ Best ss (fun y => S y ∨ ∃ h ∈ gs, In h y) x' f'
  | [], x1, f1, S, _, _, _, B => ⟨x1, f1, rfl, .inl B.at_, B.free, B.d, fun y h hy => by
    rcases h with h | ⟨g, hg, _⟩
    · exact B.max y h hy
    · cases hg⟩
  | g :: gs, x1, f1, S, hb, hp, hSl, B => by
    obtain ⟨fg, e2, Bg⟩ := hb g List.mem_cons_self
    obtain ⟨hpg, hp2⟩ := List.pairwise_cons.mp hp
    rw [List.map_cons, List.foldl_cons]
    have eb : betterF (x1, some f1) (bestOf g) = if f1 < fg then ((bestOf g).1, some fg) else (x1, some f1) := by
      unfold betterF
      rw [e2]
      simp only []
      split
      · rw [← e2]
      · rfl
    rw [eb]
    have hx1 := hSl x1 B.at_ g List.mem_cons_self
    have hSl' : ∀ y, (S y ∨ In g y) → ∀ h ∈ gs, y < h.b := fun y hy h hh => by
      rcases hy with hy | hy
      · exact hSl y hy h (List.mem_cons_of_mem _ hh)
      · have := hpg h hh
        have := hy.2
        omega
    have conv : ∀ y, ((S y ∨ In g y) ∨ ∃ h ∈ gs, In h y) ↔ (S y ∨ ∃ h ∈ g :: gs, In h y) := fun y => by
      constructor
      · rintro ((h | h) | ⟨h, hh, q⟩)
        · exact .inl h
        · exact .inr ⟨g, List.mem_cons_self, h⟩
        · exact .inr ⟨h, List.mem_cons_of_mem _ hh, q⟩
      · rintro (h | ⟨h, hh, q⟩)
        · exact .inl (.inl h)
        · rcases List.mem_cons.mp hh with z | z
          · rw [z] at q; exact .inl (.inr q)
          · exact .inr ⟨h, z, q⟩
    have fin : ∀ x2 f2, Best ss (fun y => S y ∨ In g y) x2 f2 → ∃ x' f', (gs.map bestOf).foldl betterF (x2, some f2) = (x', some f') ∧ Best ss (fun y => S y ∨ ∃ h ∈ g :: gs, In h y) x' f' := fun x2 f2 B2 => by
      obtain ⟨x', f', e, B'⟩ := better_fold gs x2 f2 (fun y => S y ∨ In g y) (fun h hh => hb h (List.mem_cons_of_mem _ hh)) hp2 hSl' B2
      exact ⟨x', f', e, (conv x').mp B'.at_, B'.free, B'.d, fun y h hy => B'.max y ((conv y).mpr h) hy⟩
    by_cases c : f1 < fg
    · rw [if_pos c]
      refine fin _ _ ⟨.inr Bg.at_, Bg.free, Bg.d, fun y h hy => ?_⟩
      rcases h with h | h
      · have := B.max y h hy
        exact ⟨by omega, fun z => by omega⟩
      · exact Bg.max y h hy
    · rw [if_neg c]
      refine fin _ _ ⟨.inl B.at_, B.free, B.d, fun y h hy => ?_⟩
      rcases h with h | h
      · exact B.max y h hy
      · have := Bg.max y h hy
        have := h.1
        exact ⟨by omega, fun z => by omega⟩
theorem Best.congr {ss : List Int} {S T : Int → Prop} {x f : Int} (B : Best ss S x f) (h : ∀ y, y ∉ ss → (S y ↔ T y)) : Best ss T x f := ⟨(h x B.free).mp B.at_, B.free, B.d, fun y hy hf => B.max y ((h y hf).mpr hy) hf⟩
/-- THE NEXT ONE, where somebody sits -/
theorem nextOf_best {n : Int} {ss : List Int} (hn : 0 ≤ n) (h : Rise n ss) (hne : ss ≠ []) : match nextOf n ss with
    | none => ∀ y, Below n y → y ∈ ss
    | some (x, none) => False
    | some (x, some f) => Best ss (Below n) x f := by
  obtain ⟨h1, h2, h3⟩ := gaps_of hn h
  have hb : ∀ g ∈ gapsF n ss, ∃ f, (bestOf g).2 = some f ∧ Best ss (In g) (bestOf g).1 f := fun g hg => gap_best h (h1 g hg) (gap_told h hne (h1 g hg))
  have hcov : ∀ y, y ∉ ss → ((∃ g ∈ gapsF n ss, In g y) ↔ Below n y) := fun y hy => by
    constructor
    · rintro ⟨g, hg, q⟩
      have G := h1 g hg
      have := G.b; have := G.e; have := q.1; have := q.2
      exact ⟨by omega, by omega⟩
    · rintro ⟨a, b⟩
      obtain ⟨g, hg, q⟩ := h3 y a b hy
      exact ⟨g, hg, q⟩
  unfold nextOf
  generalize gapsF n ss = gs at h1 h2 hb hcov
  cases gs with
  | nil =>
    intro y hy
    exact Classical.byContradiction fun c => by
      obtain ⟨g, hg, _⟩ := (hcov y c).mpr hy
      cases hg
  | cons g gs =>
    obtain ⟨fg, e2, Bg⟩ := hb g List.mem_cons_self
    obtain ⟨hpg, hp2⟩ := List.pairwise_cons.mp h2
    obtain ⟨x', f', e, B⟩ := better_fold gs (bestOf g).1 fg (In g) (fun k hk => hb k (List.mem_cons_of_mem _ hk)) hp2 (fun y hy k hk => by have := hpg k hk; have := hy.2; omega) Bg
    have eg : bestOf g = ((bestOf g).1, some fg) := by rw [← e2]
    rw [List.map_cons]
    simp only []
    rw [eg, e]
    refine B.congr fun y hy => ?_
    rw [← hcov y hy]
    constructor
    · rintro (q | ⟨k, hk, q⟩)
      · exact ⟨g, List.mem_cons_self, q⟩
      · exact ⟨k, List.mem_cons_of_mem _ hk, q⟩
    · rintro ⟨k, hk, q⟩
      rcases List.mem_cons.mp hk with z | z
      · rw [z] at q; exact .inl q
      · exact .inr ⟨k, z, q⟩
theorem told_of {n : Int} {ss : List Int} (hn : 0 ≤ n) (h : Rise n ss) : ∀ g r, gapsF n ss = g :: r → r ≠ [] → ∀ x ∈ gapsF n ss, ∃ f, (bestOf x).2 = some f := fun g r e hr x hx => by
  obtain ⟨h1, h2, h3⟩ := gaps_of hn h
  by_cases hne : ss = []
  · subst hne
    exfalso
    have e2 : gapsF n [] = (if 0 < n then [(⟨decide ((0 : Int) = 0), 0, n - 0, decide (n = n)⟩ : Gap)] else []) := by
      rw [gapsF_eq]
      show gapsR n 0 [n] = _
      rw [gapsR, gapsR, List.append_nil]
    rw [e2] at e
    split at e
    · injection e with _ e3
      exact hr e3.symm
    · cases e
  · obtain ⟨f, e, _⟩ := gap_best h (h1 x hx) (gap_told h hne (h1 x hx))
    exact ⟨f, e⟩
theorem law_empty : ∀ i : Nat, ((List.range i).map fun i : Nat => (i : Int)).foldl (lawStep []) none = if i = 0 then none else some (0, none)
  | 0 => rfl
  | i + 1 => by
    rw [List.range_succ, List.map_append, List.foldl_append, law_empty i]
    by_cases h : i = 0
    · subst h; rfl
    · rw [if_neg h, if_neg (by omega)]
      show lawStep [] (some (0, none)) (i : Int) = _
      rfl
/-- THE LAW of the next one -/
theorem next_is_law {n : Int} {ss : List Int} (hn : 0 < n) (h : Rise n ss) : nextOf n ss = lawNext n ss := by
  by_cases hne : ss = []
  · subst hne
    unfold lawNext
    rw [law_empty, if_neg (by omega)]
    have e2 : gapsF n [] = [(⟨decide ((0 : Int) = 0), 0, n - 0, decide (n = n)⟩ : Gap)] := by
      rw [gapsF_eq]
      show gapsR n 0 [n] = _
      rw [gapsR, gapsR, List.append_nil, if_pos hn]
    unfold nextOf
    rw [e2]
    simp [bestOf]
  · have a := nextOf_best (by omega) h hne
    have b := law_to hne n.toNat
    unfold lawNext
    have en : ((n.toNat : Nat) : Int) = n := by omega
    rw [en] at b
    generalize ((List.range n.toNat).map fun i : Nat => (i : Int)).foldl (lawStep ss) none = o at b
    generalize nextOf n ss = o' at a
    match o', a, o, b with
    | none, a, none, b => rfl
    | none, a, some (x, none), b => exact b.elim
    | none, a, some (x, some f), b => exact absurd (a x b.at_) b.free
    | some (x, none), a, _, _ => exact a.elim
    | some (x, some f), a, none, b => exact absurd (b x a.at_.1 a.at_.2) a.free
    | some (x, some f), a, some (y, none), b => exact b.elim
    | some (x, some f), a, some (y, some g), b =>
      obtain ⟨e1, e2⟩ := a.uniq b
      rw [e1, e2]
end Sit
namespace Sit
theorem rise_nil (n : Int) : Rise n [] := ⟨List.Pairwise.nil, by simp⟩
theorem rise_one {n s : Int} (h0 : 0 ≤ s) (h1 : s < n) : Rise n [s] := ⟨List.pairwise_singleton _ _, fun t ht => by rw [List.mem_singleton.mp ht]; exact ⟨h0, h1⟩⟩
def upto (n : Nat) : List Int := (List.range n).map fun i : Nat => (i : Int)
theorem mem_upto {n : Nat} {x : Int} : x ∈ upto n ↔ 0 ≤ x ∧ x < n := by
  unfold upto
  rw [List.mem_map]
  constructor
  · rintro ⟨i, hi, rfl⟩
    have := List.mem_range.mp hi
    omega
  · rintro ⟨a, b⟩
    exact ⟨x.toNat, List.mem_range.mpr (by omega), by omega⟩
theorem rise_upto {n : Int} (h : 0 ≤ n) : Rise n (upto n.toNat) := by
  refine ⟨?_, fun s hs => by have := mem_upto.mp hs; omega⟩
  unfold upto
  rw [List.pairwise_map]
  exact List.pairwise_lt_range.imp fun h => by omega
theorem length_upto (n : Nat) : (upto n).length = n := by unfold upto; rw [List.length_map, List.length_range]
theorem next_full {n : Int} (h : 0 < n) : nextOf n (upto n.toNat) = none := by
  have hne : upto n.toNat ≠ [] := List.ne_nil_of_mem (mem_upto.mpr ⟨Int.le_refl 0, by omega⟩)
  have a := nextOf_best (by omega) (rise_upto (by omega : 0 ≤ n)) hne
  generalize nextOf n (upto n.toNat) = o at a
  match o, a with
  | none, _ => rfl
  | some (x, none), a => exact a.elim
  | some (x, some f), a => exact absurd (mem_upto.mpr ⟨a.at_.1, by have := a.at_.2; omega⟩) a.free
theorem next_empty {n : Int} (h : 0 < n) : nextOf n [] = some (0, none) := by
  rw [next_is_law h (rise_nil n)]
  unfold lawNext
  rw [law_empty, if_neg (by omega)]
theorem next_last {n : Int} (h : 0 < n) : (nextOf n [n - 1]).map (·.1) = if 1 < n then some 0 else none := by
  have e : gapsF n [n - 1] = if 1 < n then [⟨true, 0, n - 1, false⟩] else [] := by
    show (gapStep n (gapStep n (0, []) (n - 1)) n).2 = _
    unfold gapStep
    simp only []
    rw [if_neg (by omega)]
    by_cases c : 1 < n
    · have e : decide (n - 1 = n) = false := decide_eq_false (by omega)
      rw [if_pos (by omega), if_pos c, e]
      simp
    · rw [if_neg (by omega), if_neg c]
  unfold nextOf
  rw [e]
  by_cases c : 1 < n
  · rw [if_pos c, if_pos c]; rfl
  · rw [if_neg c, if_neg c]; rfl
theorem Rise.le {n : Int} {ss : List Int} (h : Rise n ss) : (ss.length : Int) ≤ n ∨ ss = [] := by
  by_cases hs : ss = []
  · exact .inr hs
  · left
    have key : ∀ (l : List Int) (lo hi : Int), l.Pairwise (· < ·) → (∀ s ∈ l, lo ≤ s ∧ s < hi) → lo ≤ hi → (l.length : Int) ≤ hi - lo := by
      intro l
      induction l with
      | nil => intro lo hi _ _ h; simp; omega
      | cons a r ih =>
        intro lo hi hp hb hlh
        obtain ⟨h1, h2⟩ := List.pairwise_cons.mp hp
        have ha := hb a List.mem_cons_self
        have := ih (a + 1) hi h2 (fun s hs => ⟨by have := h1 s hs; omega, (hb s (List.mem_cons_of_mem _ hs)).2⟩) (by omega)
        rw [List.length_cons]
        omega
    have h0 : 0 ≤ n := by
      obtain ⟨s, hs⟩ := List.exists_mem_of_ne_nil ss hs
      have := h.of s hs; omega
    have := key ss 0 n h.up h.of h0
    omega

/-! ### the sitters behind comers -/
def insI (x : Int) : List Int → List Int
  | [] => [x]
  | y :: r => if x < y then x :: y :: r else y :: insI x r
theorem insI_perm (x : Int) : ∀ l : List Int, (insI x l).Perm (x :: l)
  | [] => .refl _
  | y :: r => by
    unfold insI
    split
    · exact .refl _
    · exact ((insI_perm x r).cons y).trans (.swap x y r)
theorem mem_insI {x y : Int} {l : List Int} : y ∈ insI x l ↔ y = x ∨ y ∈ l := by rw [(insI_perm x l).mem_iff, List.mem_cons]
theorem length_insI (x : Int) (l : List Int) : (insI x l).length = l.length + 1 := by rw [(insI_perm x l).length_eq, List.length_cons]
theorem insI_up {x : Int} : ∀ {l : List Int}, l.Pairwise (· < ·) → x ∉ l → (insI x l).Pairwise (· < ·)
  | [], _, _ => List.pairwise_singleton _ _
  | y :: r, h, hx => by
    obtain ⟨h1, h2⟩ := List.pairwise_cons.mp h
    have hxy : x ≠ y := fun e => hx (e ▸ List.mem_cons_self)
    unfold insI
    by_cases c : x < y
    · rw [if_pos c]
      refine List.pairwise_cons.mpr ⟨fun z hz => ?_, h⟩
      rcases List.mem_cons.mp hz with e | e
      · rw [e]; exact c
      · have := h1 z e; omega
    · rw [if_neg c]
      refine List.pairwise_cons.mpr ⟨fun z hz => ?_, insI_up h2 fun e => hx (List.mem_cons_of_mem _ e)⟩
      rcases mem_insI.mp hz with e | e
      · rw [e]; omega
      · exact h1 z e
theorem sorted_uniq : ∀ {l m : List Int}, l.Perm m → l.Pairwise (· ≤ ·) → m.Pairwise (· ≤ ·) → l = m
  | [], m, p, _, _ => (List.nil_perm.mp p).symm
  | a :: l, [], p, _, _ => absurd (List.perm_nil.mp p) (by simp)
  | a :: l, b :: m, p, h1, h2 => by
    obtain ⟨a1, a2⟩ := List.pairwise_cons.mp h1
    obtain ⟨b1, b2⟩ := List.pairwise_cons.mp h2
    have hab : a = b := by
      have ha : a ∈ b :: m := p.mem_iff.mp List.mem_cons_self
      have hb : b ∈ a :: l := p.mem_iff.mpr List.mem_cons_self
      have u : b ≤ a := by
        rcases List.mem_cons.mp ha with e | e
        · omega
        · exact b1 a e
      have v : a ≤ b := by
        rcases List.mem_cons.mp hb with e | e
        · omega
        · exact a1 b e
      omega
    subst hab
    rw [sorted_uniq p.cons_inv a2 b2]
theorem up_le {l : List Int} (h : l.Pairwise (· < ·)) : l.Pairwise (· ≤ ·) := h.imp fun h => by omega
theorem sorted_ins {ms ss : List Int} {x : Int} (p : ms.Perm (ss ++ [x])) (h : ms.Pairwise (· ≤ ·)) (hs : ss.Pairwise (· < ·)) (hx : x ∉ ss) : ms = insI x ss :=
  sorted_uniq (p.trans ((List.perm_append_comm).trans (insI_perm x ss).symm)) h (up_le (insI_up hs hx))
theorem nodup_sub : ∀ {l m : List Int}, l.Nodup → (∀ x ∈ l, x ∈ m) → l.length ≤ m.length
  | [], _, _, _ => Nat.zero_le _
  | a :: l, m, h, hs => by
    obtain ⟨h1, h2⟩ := List.nodup_cons.mp h
    have ha := hs a List.mem_cons_self
    have := nodup_sub (l := l) (m := m.erase a) h2 fun x hx => (List.mem_erase_of_ne (fun (e : x = a) => h1 (by rw [← e]; exact hx))).mpr (hs x (List.mem_cons_of_mem _ hx))
    rw [List.length_erase_of_mem ha] at this
    have hpos : 0 < m.length := List.length_pos_of_mem ha
    rw [List.length_cons]
    omega
theorem up_nodup {l : List Int} (h : l.Pairwise (· < ·)) : l.Nodup := h.imp fun h => by omega
theorem Rise.len {n : Int} {ss : List Int} (hn : 0 ≤ n) (h : Rise n ss) : (ss.length : Int) ≤ n := by
  rcases h.le with e | e
  · exact e
  · rw [e]; simp; omega
/-- a bench that is not full has a next one -/
theorem next_some {n : Int} {ss : List Int} (hn : 0 < n) (h : Rise n ss) (hl : (ss.length : Int) < n) : ∃ x o, nextOf n ss = some (x, o) ∧ 0 ≤ x ∧ x < n ∧ x ∉ ss := by
  by_cases hne : ss = []
  · subst hne
    exact ⟨0, none, next_empty hn, Int.le_refl _, hn, by simp⟩
  · have a := nextOf_best (by omega) h hne
    generalize nextOf n ss = o at a
    match o, a with
    | none, a =>
      exfalso
      have := nodup_sub (l := upto n.toNat) (m := ss) (up_nodup (rise_upto (by omega)).up) fun x hx => by
        have := mem_upto.mp hx
        exact a x ⟨this.1, by omega⟩
      rw [length_upto] at this
      omega
    | some (x, none), a => exact a.elim
    | some (x, some f), a => exact ⟨x, some f, rfl, a.at_.1, a.at_.2, a.free⟩
theorem next_none {n : Int} {ss : List Int} (hn : 0 < n) (h : Rise n ss) (hl : (ss.length : Int) = n) : nextOf n ss = none := by
  have e : ss = upto n.toNat := by
    have key : ∀ (l : List Int) (lo hi : Int), l.Pairwise (· < ·) → (∀ s ∈ l, lo ≤ s ∧ s < hi) → (l.length : Int) = hi - lo → ∀ y, lo ≤ y → y < hi → y ∈ l := by
      intro l lo hi hp hb hlen y h1 h2
      refine Classical.byContradiction fun hy => ?_
      have := nodup_sub (l := y :: l) (m := (upto (hi - lo).toNat).map (· + lo)) (List.nodup_cons.mpr ⟨hy, up_nodup hp⟩) fun z hz => by
        rw [List.mem_map]
        have : lo ≤ z ∧ z < hi := by
          rcases List.mem_cons.mp hz with e | e
          · rw [e]; exact ⟨h1, h2⟩
          · exact hb z e
        exact ⟨z - lo, mem_upto.mpr ⟨by omega, by omega⟩, by omega⟩
      rw [List.length_map, length_upto, List.length_cons] at this
      omega
    have hall := key ss 0 n h.up h.of (by omega)
    refine sorted_uniq ?_ (up_le h.up) (up_le (rise_upto (by omega)).up)
    refine (List.perm_ext_iff_of_nodup (up_nodup h.up) (up_nodup (rise_upto (by omega : 0 ≤ n)).up)).mpr fun y => ?_
    rw [mem_upto]
    constructor
    · intro hy; have := h.of y hy; omega
    · intro hy; exact hall y hy.1 (by omega)
  rw [e]
  exact next_full hn
theorem Rise.ins {n x : Int} {ss : List Int} (h : Rise n ss) (h0 : 0 ≤ x) (h1 : x < n) (hx : x ∉ ss) : Rise n (insI x ss) := ⟨insI_up h.up hx, fun t ht => by
  rcases mem_insI.mp ht with e | e
  · rw [e]; exact ⟨h0, h1⟩
  · exact h.of t e⟩
/-- who sits when k have come -/
def sitAt (n : Int) (ss : List Int) : Nat → List Int
  | 0 => ss
  | k + 1 => match nextOf n (sitAt n ss k) with
    | some p => insI p.1 (sitAt n ss k)
    | none => sitAt n ss k
/-- the first k who come -/
def comers (n : Int) (ss : List Int) (k : Nat) : List (Int × Option Int) := (List.range k).filterMap fun i => nextOf n (sitAt n ss i)
theorem comers_succ (n : Int) (ss : List Int) (k : Nat) : comers n ss (k + 1) = comers n ss k ++ (nextOf n (sitAt n ss k)).toList := by
  unfold comers
  rw [List.range_succ, List.filterMap_append]
  cases h : nextOf n (sitAt n ss k) <;> simp [h]
theorem sit_step {n x : Int} {o : Option Int} {ss : List Int} {k : Nat} (h : nextOf n (sitAt n ss k) = some (x, o)) : sitAt n ss (k + 1) = insI x (sitAt n ss k) := by
  show (match nextOf n (sitAt n ss k) with | some p => insI p.1 (sitAt n ss k) | none => sitAt n ss k) = _
  rw [h]
theorem sit_ok {n : Int} {ss : List Int} (hn : 0 < n) (h : Rise n ss) : ∀ k : Nat, (ss.length + k : Int) ≤ n → Rise n (sitAt n ss k) ∧ (sitAt n ss k).length = ss.length + k ∧ (comers n ss k).length = k ∧ (sitAt n ss k).Perm (ss ++ (comers n ss k).map (·.1))
  | 0, _ => ⟨h, rfl, rfl, by show ss.Perm (ss ++ ([] : List Int)); rw [List.append_nil]⟩
  | k + 1, hk => by
    obtain ⟨h1, h2, h3, h4⟩ := sit_ok hn h k (by omega)
    obtain ⟨x, o, e, x0, x1, hx⟩ := next_some hn h1 (by omega)
    rw [sit_step e, comers_succ, e]
    refine ⟨h1.ins x0 x1 hx, by rw [length_insI, h2]; omega, by simp [h3], ?_⟩
    refine (insI_perm x _).trans ((h4.cons x).trans ?_)
    show (x :: (ss ++ (comers n ss k).map (·.1))).Perm (ss ++ ((comers n ss k) ++ [(x, o)]).map (·.1))
    rw [List.map_append, ← List.append_assoc]
    exact List.perm_append_comm (l₁ := [x])
theorem sit_mono {n : Int} {ss : List Int} {y : Int} (j : Nat) (hy : y ∈ sitAt n ss j) : ∀ i : Nat, y ∈ sitAt n ss (j + i)
  | 0 => hy
  | i + 1 => by
    have := sit_mono j hy i
    show y ∈ (match nextOf n (sitAt n ss (j + i)) with | some p => insI p.1 (sitAt n ss (j + i)) | none => sitAt n ss (j + i))
    split
    · exact mem_insI.mpr (.inr this)
    · exact this
end Sit
namespace Sit
open Ab
/-! ### deeds, and the first list of fewest -/
abbrev Dd := Option Int
def afterF (n : Int) (ss : List Int) : Dd → Option (List Int)
  | none => (nextOf n ss).map fun p => insI p.1 ss
  | some s => some (ss.filter fun x => !decide (x = s))
def succs (here : List Int) : List Dd := none :: here.map some
abbrev St2 := List (List Dd × List Int) × List (List Int)
def stepD (n : Int) (row : List Dd) (here : List Int) (acc : St2) (d : Dd) : St2 := match afterF n here d with
  | none => acc
  | some t => if t ∈ acc.2 then acc else (acc.1 ++ [(row ++ [d], t)], acc.2 ++ [t])
def stepRow (n : Int) (acc : St2) (p : List Dd × List Int) : St2 := (succs p.2).foldl (stepD n p.1 p.2) acc
def stepLayer (n : Int) (layer : List (List Dd × List Int)) (known : List (List Int)) : St2 := layer.foldl (stepRow n) ([], known)
def bfs (n : Int) (oo : List Int) : Nat → List (List Dd × List Int) → List (List Int) → Option (List Dd)
  | 0, _, _ => none
  | f + 1, layer, known => if layer = [] then none else match layer.find? fun p => decide (p.2 = oo) with
    | some p => some p.1
    | none => bfs n oo f (stepLayer n layer known).1 (stepLayer n layer known).2
def bfsF (n : Int) (ss oo : List Int) : Option (List Dd) := bfs n oo 2000 [([], ss)] [ss]
theorem filter_rise {n : Int} {ss : List Int} (h : Rise n ss) (f : Int → Bool) : Rise n (ss.filter f) := ⟨h.up.filter f, fun s hs => h.of s (List.mem_filter.mp hs).1⟩
theorem after_rise {n : Int} {ss t : List Int} (hn : 0 < n) (h : Rise n ss) {d : Dd} (e : afterF n ss d = some t) : Rise n t := by
  cases d with
  | none =>
    unfold afterF at e
    cases z : nextOf n ss with
    | none => rw [z] at e; cases e
    | some p =>
      rw [z] at e
      have e : insI p.1 ss = t := Option.some.inj e
      have hl : (ss.length : Int) < n := by
        have h1 := h.len (n := n) (by omega)
        refine Classical.byContradiction fun c => ?_
        rw [next_none hn h (by omega)] at z
        cases z
      obtain ⟨x, o, e2, x0, x1, hx⟩ := next_some hn h hl
      rw [z] at e2
      cases e2
      rw [← e]
      exact h.ins x0 x1 hx
  | some s =>
    cases e
    exact filter_rise h _
/-! what is known: as many as there are, at most -/
def allR : Nat → List (List Int)
  | 0 => [[]]
  | m + 1 => allR m ++ (allR m).map (· ++ [(m : Int)])
theorem allR_len : ∀ m, (allR m).length = 2 ^ m
  | 0 => rfl
  | m + 1 => by
    show (allR m ++ (allR m).map (· ++ [(m : Int)])).length = _
    rw [List.length_append, List.length_map, allR_len m, Nat.pow_succ]
    omega
theorem mem_allR : ∀ (m : Nat) {t : List Int}, Rise (m : Int) t → t ∈ allR m
  | 0, t, h => by
    cases t with
    | nil => exact List.mem_singleton.mpr rfl
    | cons a r => have := h.of a List.mem_cons_self; omega
  | m + 1, t, h => by
    show t ∈ allR m ++ (allR m).map (· ++ [(m : Int)])
    rw [List.mem_append]
    by_cases hm : (m : Int) ∈ t
    · obtain ⟨pre, post, e⟩ := List.append_of_mem hm
      have hp := h.up
      rw [e] at hp
      obtain ⟨p1, p2, p3⟩ := List.pairwise_append.mp hp
      have hpost : post = [] := by
        cases post with
        | nil => rfl
        | cons b r =>
          have h1 := (List.pairwise_cons.mp p2).1 b List.mem_cons_self
          have h2 := h.of b (by rw [e]; simp)
          omega
      subst hpost
      refine .inr (List.mem_map.mpr ⟨pre, mem_allR m ⟨p1, fun s hs => ?_⟩, e.symm⟩)
      have h1 := p3 s hs (m : Int) List.mem_cons_self
      have h2 := h.of s (by rw [e]; exact List.mem_append_left _ hs)
      omega
    · refine .inl (mem_allR m ⟨h.up, fun s hs => ?_⟩)
      have h2 := h.of s hs
      have h3 : s ≠ (m : Int) := fun e => hm (e ▸ hs)
      omega
theorem nodup_sub2 {α : Type} [DecidableEq α] : ∀ {l m : List α}, l.Nodup → (∀ x ∈ l, x ∈ m) → l.length ≤ m.length
  | [], _, _, _ => Nat.zero_le _
  | a :: r, m, h, hs => by
    rw [List.nodup_cons] at h
    have ha := hs a List.mem_cons_self
    have := nodup_sub2 (m := m.erase a) h.2 fun x hx => (List.mem_erase_of_ne fun e => h.1 (by rw [← e]; exact hx)).mpr (hs x (List.mem_cons_of_mem _ hx))
    rw [List.length_erase_of_mem ha] at this
    have hp := List.length_pos_of_mem ha
    rw [List.length_cons]
    omega
theorem known_few {n : Int} (h0 : 0 ≤ n) (hn : n ≤ 9) {ks : List (List Int)} (nd : ks.Nodup) (h : ∀ t ∈ ks, Rise n t) : ks.length ≤ 512 := by
  have h1 := nodup_sub2 (m := allR n.toNat) nd fun t ht => mem_allR _ (by
    have e : ((n.toNat : Nat) : Int) = n := by omega
    rw [e]; exact h t ht)
  rw [allR_len] at h1
  have : 2 ^ n.toNat ≤ 2 ^ 9 := Nat.pow_le_pow_right (by decide) (by omega)
  omega
/-- what stands while a layer is walked -/
structure Inv2 (n : Int) (k0 : List (List Int)) (acc : St2) : Prop where
  nd : acc.2.Nodup
  rise : ∀ t ∈ acc.2, Rise n t
  sub : ∀ t ∈ k0, t ∈ acc.2
  later : ∀ p ∈ acc.1, p.2 ∈ acc.2
  new : ∀ t ∈ acc.2, t ∈ k0 ∨ t ∈ acc.1.map (·.2)
  len : acc.2.length = k0.length + acc.1.length
theorem Inv2.step {n : Int} (hn : 0 < n) {k0 : List (List Int)} {acc : St2} (I : Inv2 n k0 acc) {row : List Dd} {here : List Int} (hh : Rise n here) (d : Dd) : Inv2 n k0 (stepD n row here acc d) ∧ (∀ t ∈ acc.2, t ∈ (stepD n row here acc d).2) ∧ ∀ t, afterF n here d = some t → t ∈ (stepD n row here acc d).2 := by
  unfold stepD
  cases e : afterF n here d with
  | none => exact ⟨I, fun t h => h, fun t h => by cases h⟩
  | some t =>
    dsimp only
    by_cases c : t ∈ acc.2
    · rw [if_pos c]
      exact ⟨I, fun t h => h, fun u h => by cases h; exact c⟩
    · rw [if_neg c]
      refine ⟨⟨?_, fun u hu => ?_, fun u hu => List.mem_append_left _ (I.sub u hu), fun p hp => ?_, fun u hu => ?_, ?_⟩, fun u h => List.mem_append_left _ h, fun u h => by cases h; simp⟩
      · refine List.nodup_append.mpr ⟨I.nd, by simp, fun a ha b hb e2 => ?_⟩
        rw [List.mem_singleton.mp hb] at e2
        rw [e2] at ha
        exact c ha
      · rcases List.mem_append.mp hu with q | q
        · exact I.rise u q
        · rw [List.mem_singleton.mp q]; exact after_rise hn hh e
      · rcases List.mem_append.mp hp with q | q
        · exact List.mem_append_left _ (I.later p q)
        · rw [List.mem_singleton.mp q]; simp
      · rw [List.map_append]
        rcases List.mem_append.mp hu with q | q
        · rcases I.new u q with r | r
          · exact .inl r
          · exact .inr (List.mem_append_left _ r)
        · rw [List.mem_singleton.mp q]
          exact .inr (by simp)
      · dsimp only
        rw [List.length_append, List.length_append, I.len]
        simp
        omega
theorem Inv2.steps {n : Int} (hn : 0 < n) {k0 : List (List Int)} {row : List Dd} {here : List Int} (hh : Rise n here) : ∀ (ds : List Dd) {acc : St2}, Inv2 n k0 acc → Inv2 n k0 (ds.foldl (stepD n row here) acc) ∧ (∀ t ∈ acc.2, t ∈ (ds.foldl (stepD n row here) acc).2) ∧ ∀ d ∈ ds, ∀ t, afterF n here d = some t → t ∈ (ds.foldl (stepD n row here) acc).2
  | [], acc, I => ⟨I, fun t h => h, fun d hd => by cases hd⟩
  | d :: r, acc, I => by
    obtain ⟨a1, a2, a3⟩ := I.step hn (row := row) hh d
    obtain ⟨b1, b2, b3⟩ := Inv2.steps hn (row := row) hh r a1
    rw [List.foldl_cons]
    refine ⟨b1, fun t ht => b2 t (a2 t ht), fun e he t ht => ?_⟩
    rcases List.mem_cons.mp he with q | q
    · rw [q] at ht; exact b2 t (a3 t ht)
    · exact b3 e q t ht
theorem Inv2.rows {n : Int} (hn : 0 < n) {k0 : List (List Int)} : ∀ (ps : List (List Dd × List Int)) {acc : St2}, Inv2 n k0 acc → (∀ p ∈ ps, Rise n p.2) → Inv2 n k0 (ps.foldl (stepRow n) acc) ∧ (∀ t ∈ acc.2, t ∈ (ps.foldl (stepRow n) acc).2) ∧ ∀ p ∈ ps, ∀ d ∈ succs p.2, ∀ t, afterF n p.2 d = some t → t ∈ (ps.foldl (stepRow n) acc).2
  | [], acc, I, _ => ⟨I, fun t h => h, fun d hd => by cases hd⟩
  | p :: r, acc, I, h => by
    obtain ⟨a1, a2, a3⟩ := I.steps hn (row := p.1) (h p List.mem_cons_self) (succs p.2)
    obtain ⟨b1, b2, b3⟩ := Inv2.rows hn r a1 fun q hq => h q (List.mem_cons_of_mem _ hq)
    rw [List.foldl_cons]
    refine ⟨b1, fun t ht => b2 t (a2 t ht), fun q hq d hd t ht => ?_⟩
    rcases List.mem_cons.mp hq with z | z
    · rw [z] at hd ht; exact b2 t (a3 d hd t ht)
    · exact b3 q z d hd t ht
theorem inv2_start {n : Int} {k0 : List (List Int)} (nd : k0.Nodup) (h : ∀ t ∈ k0, Rise n t) : Inv2 n k0 ([], k0) := ⟨nd, h, fun t h => h, fun p hp => (by cases hp), fun t h => .inl h, rfl⟩
/-! whoever is asked for is come to -/
structure Closed (n : Int) (S : List Int → Prop) : Prop where
  st : ∀ t, S t → Rise n t → ∀ d ∈ succs t, ∀ u, afterF n t d = some u → S u
theorem reach_full {n : Int} (hn : 0 < n) {S : List Int → Prop} (C : Closed n S) : ∀ (k : Nat) (t : List Int), S t → Rise n t → n - t.length = k → ∃ u, S u ∧ Rise n u ∧ (u.length : Int) = n
  | 0, t, h, r, e => ⟨t, h, r, by omega⟩
  | k + 1, t, h, r, e => by
    obtain ⟨x, o, e2, x0, x1, hx⟩ := next_some hn r (by omega)
    have ea : afterF n t none = some (insI x t) := by unfold afterF; rw [e2]; rfl
    exact reach_full hn C k (insI x t) (C.st t h r none List.mem_cons_self _ ea) (r.ins x0 x1 hx) (by rw [length_insI]; omega)
theorem reach_down {n : Int} (hn : 0 < n) {S : List Int → Prop} (C : Closed n S) {oo : List Int} (ho : Rise n oo) : ∀ (k : Nat) (t : List Int), t.length ≤ k → S t → Rise n t → (∀ s ∈ oo, s ∈ t) → S oo
  | k, t, hk, h, r, hs => by
    by_cases c : ∀ s ∈ t, s ∈ oo
    · have e : t = oo := by
        refine sorted_uniq ?_ (up_le r.up) (up_le ho.up)
        exact (List.perm_ext_iff_of_nodup (up_nodup r.up) (up_nodup ho.up)).mpr fun x => ⟨c x, hs x⟩
      rw [← e]; exact h
    · obtain ⟨s, hc⟩ := Classical.not_forall.mp c
      obtain ⟨h1, h2⟩ := Classical.not_imp.mp hc
      cases k with
      | zero =>
        cases t with
        | nil => cases h1
        | cons _ _ => simp at hk
      | succ k =>
        have hlt : (t.filter fun x => !decide (x = s)).length < t.length := by
          refine Nat.lt_of_le_of_ne (List.length_filter_le _ _) fun e => ?_
          have := List.length_filter_eq_length_iff.mp e s h1
          simp at this
        refine reach_down hn C ho k (t.filter fun x => !decide (x = s)) (by omega) (C.st t h r (some s) (List.mem_cons_of_mem _ (List.mem_map.mpr ⟨s, h1, rfl⟩)) _ rfl) (filter_rise r _) fun x hx => List.mem_filter.mpr ⟨hs x hx, ?_⟩
        have : x ≠ s := fun e => h2 (e ▸ hx)
        simp [this]
theorem full_has {n : Int} {u : List Int} (hn : 0 < n) (h : Rise n u) (hl : (u.length : Int) = n) : ∀ x, 0 ≤ x → x < n → x ∈ u := fun x h0 h1 => by
  have hb := nextOf_best (n := n) (by omega) h (fun e => by rw [e] at hl; simp at hl; omega)
  rw [next_none hn h hl] at hb
  exact hb x ⟨h0, h1⟩
theorem reach_all {n : Int} (hn : 0 < n) {S : List Int → Prop} (C : Closed n S) {ss oo : List Int} (hs : Rise n ss) (ho : Rise n oo) (h : S ss) : S oo := by
  have hl := hs.len (n := n) (by omega)
  obtain ⟨u, u1, u2, u3⟩ := reach_full hn C (n - ss.length).toNat ss h hs (by omega)
  exact reach_down hn C ho u.length u (Nat.le_refl _) u1 u2 fun s hs' => full_has hn u2 u3 s (ho.of s hs').1 (ho.of s hs').2
/-- what stands from layer to layer -/
structure LayI (n : Int) (ss oo : List Int) (layer : List (List Dd × List Int)) (known : List (List Int)) : Prop where
  nd : known.Nodup
  rise : ∀ t ∈ known, Rise n t
  on : ∀ p ∈ layer, p.2 ∈ known
  st : ss ∈ known
  cl : ∀ t ∈ known, t ∈ layer.map (·.2) ∨ (t ≠ oo ∧ ∀ d ∈ succs t, ∀ u, afterF n t d = some u → u ∈ known)
theorem LayI.start {n : Int} {ss oo : List Int} (h : Rise n ss) : LayI n ss oo [([], ss)] [ss] := ⟨by simp, fun t ht => by rw [List.mem_singleton.mp ht]; exact h, fun p hp => by rw [List.mem_singleton.mp hp]; simp, by simp, fun t ht => .inl (by rw [List.mem_singleton.mp ht]; simp)⟩
theorem LayI.next {n : Int} (hn : 0 < n) {ss oo : List Int} {layer : List (List Dd × List Int)} {known : List (List Int)} (L : LayI n ss oo layer known) (hno : layer.find? (fun p => decide (p.2 = oo)) = none) : LayI n ss oo (stepLayer n layer known).1 (stepLayer n layer known).2 ∧ (stepLayer n layer known).2.length = known.length + (stepLayer n layer known).1.length := by
  obtain ⟨a1, a2, a3⟩ := (inv2_start L.nd L.rise).rows hn layer fun p hp => L.rise _ (L.on p hp)
  refine ⟨⟨a1.nd, a1.rise, a1.later, a1.sub _ L.st, fun t ht => ?_⟩, a1.len⟩
  rcases a1.new t ht with q | q
  · rcases L.cl t q with z | ⟨z1, z2⟩
    · obtain ⟨p, hp, rfl⟩ := List.mem_map.mp z
      refine .inr ⟨fun e => ?_, fun d hd u hu => a3 p hp d hd u hu⟩
      have := List.find?_eq_none.mp hno p hp
      rw [decide_eq_true e] at this
      exact this rfl
    · exact .inr ⟨z1, fun d hd u hu => a1.sub u (z2 d hd u hu)⟩
  · exact .inl q
theorem LayI.never {n : Int} (hn : 0 < n) {ss oo : List Int} {known : List (List Int)} (hs : Rise n ss) (ho : Rise n oo) (L : LayI n ss oo [] known) : False := by
  have C : Closed n fun t => t ∈ known := ⟨fun t ht _ d hd u hu => by
    rcases L.cl t ht with z | z
    · cases z
    · exact z.2 d hd u hu⟩
  have := reach_all hn C hs ho L.st
  rcases L.cl oo this with z | z
  · cases z
  · exact z.1 rfl
end Sit
namespace Sit
open PySem PySem.Spec L2
def top (i : Nat) : Stmt := PySem.Challenge.pw_sitapart_k01_benches_and_sitters_known.main.body.getD i (.Pass ⟨0, 0, 0, 0⟩)
abbrev s_is_within : Stmt := top 11
abbrev s_is_bench : Stmt := top 12
abbrev s_are_seats : Stmt := top 13
abbrev s_need_bench : Stmt := top 14
abbrev s_are_sitters : Stmt := top 15
abbrev s_law_cell_at : Stmt := top 17
abbrev s_law_draws : Stmt := top 18
abbrev s_law_spoilt : Stmt := top 19
abbrev s_law_from : Stmt := top 20
abbrev s_law_bag : Stmt := top 21
abbrev s_law_bags : Stmt := top 22
abbrev s_law_take : Stmt := top 23
abbrev s_law_odd : Stmt := top 24
abbrev s_law_some : Stmt := top 25
abbrev s_law_far_draw : Stmt := top 26
abbrev s_law_refused : Stmt := top 27
abbrev s_law_are_sitters : Stmt := top 28
abbrev s_law : Stmt := top 29
def meth0 (s : Stmt) : Stmt := match s with
  | .ClassDef _ _ _ (b :: _) _ _ _ _ _ _ _ => b
  | _ => .Pass ⟨0, 0, 0, 0⟩
abbrev m_NoDeed : Stmt := meth0 (top 6)
abbrev m_TooMany : Stmt := meth0 (top 7)
end Sit
namespace Sit
open PySem PySem.Spec L2 Ab
open PyProof.Rows (envOfC)
/-! ### the built-ins' names are free, the constants stand -/
structure Bt (mg : Str → Option Value) : Prop where
  isinstance : mg "isinstance" = none
  int : mg "int" = none
  bool : mg "bool" = none
  tuple : mg "tuple" = none
  list : mg "list" = none
  str : mg "str" = none
  len : mg "len" = none
  all : mg "all" = none
  zip : mg "zip" = none
  range : mg "range" = none
  min : mg "min" = none
  max : mg "max" = none
  abs : mg "abs" = none
  sum : mg "sum" = none
  sorted : mg "sorted" = none
  set : mg "set" = none
  repr : mg "repr" = none
  enumerate : mg "enumerate" = none
def Longest (mg : Str → Option Value) : Prop := ∃ t, mg "LONGEST" = some (.int (10 ^ 18) t)
def Most (mg : Str → Option Value) : Prop := ∃ t, mg "MOST_SITTERS" = some (.int 8 t)
/-! ### what the defs reckon -/
def within (d : PyData) (lo hi : Int) : Bool := match d with
  | .int i => decide (lo ≤ i) && decide (i ≤ hi)
  | _ => false
def ltD : PyData → PyData → Bool
  | .int i, .int j => decide (i < j)
  | _, _ => false
def risingD (ds : List PyData) : Bool := (List.zipWith ltD ds (ds.drop 1)).all id
def areSeats (n : Int) : PyData → Bool
  | .tuple ds => ds.all (fun d => within d 0 (n - 1)) && risingD ds
  | _ => false
def Gap.enc (g : Gap) : PyData := .tuple [.bool g.l, .int g.b, .int g.m, .bool g.r]

/-- sitters of a bench -/
structure Sits (n : Int) (ss : List Int) : Prop where
  lo : 1 ≤ n
  hi : n ≤ 10 ^ 18
  of : areSeats n (.tuple (ss.map .int)) = true
  few : ss.length ≤ 8
/-- of several gaps none is the whole bench -/
def Told (gs : List Gap) : Prop := ∀ g r, gs = g :: r → r ≠ [] → ∀ x ∈ gs, ∃ f, (bestOf x).2 = some f
theorem ltD_ints : ∀ (ns ms : List Int), List.zipWith ltD (ns.map .int) (ms.map .int) = List.zipWith (fun i j => decide (i < j)) ns ms
  | [], _ => rfl
  | _ :: _, [] => rfl
  | n :: ns, m :: ms => congrArg (decide (n < m) :: ·) (ltD_ints ns ms)
section
variable {P : Program} {w : World} {K : PySem.W.Frag} {mg : Str → Option Value} {base : Heap}
theorem scWithin : FnScope ["thing", "low", "high"] ["thing", "low", "high"] (defScope s_is_within) := ⟨rfl, rfl, rfl, by decide +kernel, rfl, by decide +kernel, by decide +kernel⟩
def spWithin : FS := fun rs k => ∃ d lo hi, rs = [.d d, .d (.int lo), .d (.int hi)] ∧ k (.d (.bool (within d lo hi)))
theorem has_within (T : Bt mg) (d : Df K mg "is_within" s_is_within ["thing", "low", "high"]) : Has P w K mg base 1 "is_within" ["thing", "low", "high"] spWithin := by
  refine has_of d scWithin (fun rs k ⟨_, _, _, e, _⟩ => by rw [e]; rfl) fun f cdv A outer s H E hr B rs k ⟨d, lo, hi, e, q⟩ => ?_
  subst e
  refine rs_one (rs_ret (ee_and (ee_isInt T.isinstance T.int (ev_var 0 rfl ?_))))
  cases d with
  | int i =>
    refine ee_and (ee_not (ee_isBool T.isinstance T.bool (ev_var 0 rfl ?_)))
    refine ee_one (ee_lele (ee_var 1 rfl (ee_var 0 rfl ?_)))
    have q' : k (.d (.bool (decide (lo ≤ i) && decide (i ≤ hi)))) := q
    refine ifD (fun h => ?_) (fun h => ?_)
    · rw [decide_eq_true h, Bool.true_and] at q'
      exact ee_var 2 rfl q'
    · rw [decide_eq_false h, Bool.false_and] at q'
      exact q'
  | bool b => exact ee_and (ee_not (ee_isBool T.isinstance T.bool (ev_var 0 rfl q)))
  | _ => exact q
theorem scIsBench : FnScope ["thing"] ["thing"] (defScope s_is_bench) := ⟨rfl, rfl, rfl, by decide +kernel, rfl, by decide +kernel, by decide +kernel⟩
def spIsBench : FS := fun rs k => ∃ d, rs = [.d d] ∧ k (.d (.bool (within d 1 (10 ^ 18))))
theorem has_isBench (L : Longest mg) (d : Df K mg "is_bench" s_is_bench ["thing"]) (h1 : Has P w K mg base 1 "is_within" ["thing", "low", "high"] spWithin) : Has P w K mg base 2 "is_bench" ["thing"] spIsBench := by
  refine has_of d scIsBench (fun rs k ⟨_, e, _⟩ => by rw [e]; rfl) fun f cdv A outer s H E hr B rs k ⟨d, e, q⟩ => ?_
  subst e
  exact rs_one (rs_ret (ee_call h1 hr (ea_cons (ee_var 0 rfl (ea_cons (ee_int (ea_cons (ee_gint L (ea_nil ⟨_, _, _, rfl, q⟩)))))))))
abbrev nAreSeats : List Str := ["bench", "thing", "seat", "one", "other"]
theorem scAreSeats : FnScope nAreSeats ["bench", "thing"] (defScope s_are_seats) := ⟨rfl, rfl, rfl, by decide +kernel, rfl, by decide +kernel, by decide +kernel⟩
def spAreSeats : FS := fun rs k => ∃ n d, rs = [.d (.int n), .d d] ∧ (∀ ds, d = .tuple ds → ds.length ≤ 1000000) ∧ k (.d (.bool (areSeats n d)))
theorem ints_of_within {n m : Int} : ∀ {ds : List PyData}, ds.all (fun d => within d n m) = true → ∃ ns : List Int, ds = ns.map .int ∧ ∀ i ∈ ns, n ≤ i ∧ i ≤ m
  | [], _ => ⟨[], rfl, by simp⟩
  | d :: ds, h => by
    rw [List.all_cons, Bool.and_eq_true] at h
    obtain ⟨ns, e, q⟩ := ints_of_within h.2
    cases d with
    | int i =>
      have h1 : (decide (n ≤ i) && decide (i ≤ m)) = true := h.1
      rw [Bool.and_eq_true, decide_eq_true_eq, decide_eq_true_eq] at h1
      exact ⟨i :: ns, by rw [e]; rfl, fun j hj => by
        rcases List.mem_cons.mp hj with z | z
        · rw [z]; exact h1
        · exact q j z⟩
    | _ => exact absurd h.1 (by simp [within])
theorem has_areSeats (T : Bt mg) (d : Df K mg "are_seats" s_are_seats ["bench", "thing"]) (h1 : Has P w K mg base 1 "is_within" ["thing", "low", "high"] spWithin) : Has P w K mg base 2 "are_seats" ["bench", "thing"] spAreSeats := by
  refine has_of d scAreSeats (fun rs k ⟨_, _, e, _⟩ => by rw [e]; rfl) fun f cdv A outer s H E hr B rs k ⟨n, d, e, hl, q⟩ => ?_
  subst e
  refine rs_cons (rs_if (et_of_w (ew_or (et_not (et_val (ee_isTup T.isinstance T.tuple (ev_var 1 rfl ?_)))))))
  cases d with
  | tuple ds =>
    have hl := hl ds rfl
    refine ew_or1 (et_not (et_val (ee_all T.all rfl (EvL.of (ee_lc [("seat", 2)] [2] rfl scAreSeats.nd (blkOk_by (N := nAreSeats) (sc := defScope s_are_seats) (by decide +kernel)) (by decide) (ei_tup (ee_var 1 rfl ?_)))))))
    refine ⟨fun i acc => acc = ((ds.take i).map fun d => within d 0 (n - 1)).map .bool, rfl, hl, fun i d acc hd ha s0 H0 C cl fp => ?_, fun acc ha => ?_⟩
    · refine at_name 2 scAreSeats.nd fun s0 H0 C cl fp => ets_nil fun s0 H0 C cl fp => ?_
      refine ee_call h1 hr (ea_cons (ee_var 2 rfl (ea_cons (ee_int (ea_cons (ee_sub (ee_var 0 rfl (ee_int (ea_nil ⟨_, _, _, rfl, ?_⟩)))))))))
      show acc ++ [.bool (within d 0 (n - 1))] = _
      rw [ha, List.take_succ, hd]
      simp
    · have ha : acc = ((ds.take ds.length).map fun d => within d 0 (n - 1)).map .bool := ha
      rw [List.take_length] at ha
      refine ⟨_, ha, ?_⟩
      have e1 : (ds.map fun d => within d 0 (n - 1)).all id = ds.all fun d => within d 0 (n - 1) := by rw [List.all_map]; rfl
      rw [e1]
      have q' : k (.d (.bool (ds.all (fun d => within d 0 (n - 1)) && risingD ds))) := q
      cases hw : ds.all fun d => within d 0 (n - 1) with
      | false =>
        rw [hw, Bool.false_and] at q'
        exact rs_one (rs_ret (ee_bl q'))
      | true =>
        rw [hw, Bool.true_and] at q'
        obtain ⟨ns, rfl, _⟩ := ints_of_within hw
        refine rs_nil (rs_one (rs_ret (ee_all T.all rfl (EvL.of (ee_lc [("one", 3), ("other", 4)] ([3] ++ ([4] ++ [])) rfl scAreSeats.nd (blkOk_by (N := nAreSeats) (sc := defScope s_are_seats) (by decide +kernel)) (by decide) (ei_zipT T.zip (ee_var 1 rfl (ee_slT (ee_var 1 rfl (eo_some (ee_int (eo_none ?_))))))))))))
        have ec : cutD (ns.map .int) (some 1) none = (ns.drop 1).map .int := by
          rw [List.map_drop]
          exact cutD_from _ 1
        rw [ec]
        have hz : ∀ (i : Nat) d, (zipD (ns.map .int) ((ns.drop 1).map .int))[i]? = some d → ∃ x y, ns[i]? = some x ∧ (ns.drop 1)[i]? = some y ∧ d = .tuple [.int x, .int y] := by
          intro i d hd
          unfold zipD at hd
          rw [List.getElem?_zipWith, List.getElem?_map, List.getElem?_map] at hd
          cases e1 : ns[i]? with
          | none => rw [e1] at hd; simp at hd
          | some x =>
            cases e2 : (ns.drop 1)[i]? with
            | none => rw [e1, e2] at hd; simp at hd
            | some y =>
              rw [e1, e2] at hd
              simp at hd
              exact ⟨x, y, rfl, rfl, hd.symm⟩
        refine ⟨fun i acc => acc = ((List.zipWith (fun i j : Int => decide (i < j)) ns (ns.drop 1)).take i).map .bool, rfl, ?_, fun i d acc hd ha s0 H0 C cl fp => ?_, fun acc ha => ?_⟩
        · rw [zipD_length]
          exact Nat.le_trans (Nat.min_le_left _ _) hl
        · obtain ⟨x, y, e1, e2, rfl⟩ := hz i d hd
          refine at_tup rfl <| ats_cons <| at_name 3 scAreSeats.nd <| ats_cons <| at_name 4 scAreSeats.nd <| ats_nil fun s0 H0 C cl fp => ets_nil fun s0 H0 C cl fp => ?_
          refine ee_lt (ee_var 3 rfl (ee_var 4 rfl ?_))
          have ha : acc = ((List.zipWith (fun i j : Int => decide (i < j)) ns (ns.drop 1)).take i).map .bool := ha
          show acc ++ [.bool (decide (x < y))] = _
          rw [ha, List.take_succ, List.getElem?_zipWith, e1, e2]
          simp
        · have ha : acc = ((List.zipWith (fun i j : Int => decide (i < j)) ns (ns.drop 1)).take (zipD (ns.map .int) ((ns.drop 1).map .int)).length).map .bool := ha
          rw [zipD_length, List.length_map, List.length_map, ← List.length_zipWith (f := fun i j : Int => decide (i < j)), List.take_length] at ha
          refine ⟨_, ha, ?_⟩
          have e1 : risingD (ns.map .int) = (List.zipWith (fun i j : Int => decide (i < j)) ns (ns.drop 1)).all id := by
            unfold risingD
            rw [← List.map_drop, ltD_ints]
          rw [e1] at q'
          exact q'
  | _ => exact rs_one (rs_ret (ee_bl q))
/-! the refusals, where nothing is refused -/
theorem scNeedBench : FnScope ["bench"] ["bench"] (defScope s_need_bench) := ⟨rfl, rfl, rfl, by decide +kernel, rfl, by decide +kernel, by decide +kernel⟩
def spNeedBench : FS := fun rs k => ∃ d, rs = [.d d] ∧ within d 1 (10 ^ 18) = true ∧ k (.d .none)
theorem has_needBench (d : Df K mg "need_bench" s_need_bench ["bench"]) (h1 : Has P w K mg base 2 "is_bench" ["thing"] spIsBench) : Has P w K mg base 3 "need_bench" ["bench"] spNeedBench := by
  refine has_of d scNeedBench (fun rs k ⟨_, e, _⟩ => by rw [e]; rfl) fun f cdv A outer s H E hr B rs k ⟨d, e, hd, q⟩ => ?_
  subst e
  exact rs_one (rs_if (et_not (et_val (ee_call h1 hr (ea_cons (ee_var 0 rfl (ea_nil ⟨_, rfl, ifF (by rw [hd]; rfl) (rs_nil q)⟩)))))))
end
end Sit
namespace Sit
open PySem PySem.Spec L2 Ab
open PyProof.Rows (envOfC)
theorem rising_of : ∀ {ns : List Int}, ns.Pairwise (· < ·) → risingD (ns.map .int) = true := fun {ns} h => by
  unfold risingD
  rw [← List.map_drop, ltD_ints, List.all_eq_true]
  intro b hb
  obtain ⟨i, hi, e⟩ := List.getElem_of_mem hb
  rw [List.length_zipWith, List.length_drop] at hi
  rw [List.getElem_zipWith, List.getElem_drop] at e
  rw [← e]
  have := List.pairwise_iff_getElem.mp h i (1 + i) (by omega) (by omega) (by omega)
  exact decide_eq_true this
theorem areSeats_of {n : Int} {ss : List Int} (h : Rise n ss) : areSeats n (.tuple (ss.map .int)) = true := by
  show ((ss.map PyData.int).all (fun d => within d 0 (n - 1)) && risingD (ss.map .int)) = true
  rw [rising_of h.up, Bool.and_true, List.all_map, List.all_eq_true]
  intro s hs
  have := h.of s hs
  show (decide (0 ≤ s) && decide (s ≤ n - 1)) = true
  rw [decide_eq_true this.1, decide_eq_true (by omega)]
  rfl
theorem sits_of {n : Int} {ss : List Int} (h0 : 1 ≤ n) (h1 : n ≤ 10 ^ 18) (h : Rise n ss) (hl : ss.length ≤ 8) : Sits n ss := ⟨h0, h1, areSeats_of h, hl⟩
theorem rg_upto (n : Nat) : rg 0 n = (upto n).map .int := by
  unfold rg upto
  rw [List.map_map]
  refine List.map_congr_left fun i _ => ?_
  simp
end Sit
namespace Sit
open PySem PySem.Spec L2 Ab
open PyProof.Rows (envOfC)
/-- with whose seat it began -/
def begunF (n : Int) (ss : List Int) : List Int := ss.filter fun s => decide (sitAt n [s] (ss.length - 1) = ss)
section
variable {P : Program} {w : World} {K : PySem.W.Frag} {mg : Str → Option Value} {base : Heap}
end
end Sit
namespace Sit
open PySem PySem.Spec L2 Ab
open PyProof.Rows (envOfC)
def tupI (l : List Int) : PyData := .tuple (l.map .int)
/-- all lots, as they are made -/
def lotsF (ss : List Int) : List (List Int) := ss.foldl (fun acc one => acc ++ acc.map (· ++ [one])) [[]]
theorem lotsF_len : ∀ (l : List Int) (acc : List (List Int)), (l.foldl (fun acc one => acc ++ acc.map (· ++ [one])) acc).length = acc.length * 2 ^ l.length
  | [], acc => by simp
  | a :: r, acc => by
    rw [List.foldl_cons, lotsF_len r]
    rw [List.length_append, List.length_map, List.length_cons, Nat.pow_succ]
    rw [← Nat.mul_two, Nat.mul_assoc, Nat.mul_comm 2]
theorem lotsF_mem : ∀ (l : List Int) (acc : List (List Int)) (n : Nat), (∀ x ∈ acc, x.length ≤ n) → ∀ x ∈ l.foldl (fun acc one => acc ++ acc.map (· ++ [one])) acc, x.length ≤ n + l.length
  | [], acc, n, h, x, hx => h x hx
  | a :: r, acc, n, h, x, hx => by
    have := lotsF_mem r (acc ++ acc.map (· ++ [a])) (n + 1) (fun y hy => by
      rcases List.mem_append.mp hy with z | z
      · have := h y z; omega
      · obtain ⟨u, hu, rfl⟩ := List.mem_map.mp z
        have := h u hu
        rw [List.length_append, List.length_singleton]; omega) x hx
    rw [List.length_cons]; omega
theorem lots_step {ss : List Int} {i : Nat} {y : Int} (hl : ss.length ≤ 12) (hx : ss[i]? = some y) : lotsF (ss.take (i + 1)) = lotsF (ss.take i) ++ (lotsF (ss.take i)).map (· ++ [y]) ∧ (lotsF (ss.take i)).length ≤ 4096 ∧ ∀ x ∈ lotsF (ss.take i), x.length ≤ 12 := by
  have hi : i < ss.length := (List.getElem?_eq_some_iff.mp hx).1
  refine ⟨?_, ?_, fun x hx => ?_⟩
  · unfold lotsF
    exact foldl_take_succ hx
  · unfold lotsF
    rw [lotsF_len, List.length_singleton, Nat.one_mul, List.length_take]
    exact Nat.le_trans (Nat.pow_le_pow_right (by decide) (by omega)) (by decide : 2 ^ 12 ≤ 4096)
  · have := lotsF_mem (ss.take i) [[]] 0 (by simp) x hx
    rw [List.length_take] at this
    omega
theorem lots_size {ss : List Int} (hl : ss.length ≤ 12) : (lotsF ss).length ≤ 1000000 ∧ ∀ x ∈ lotsF ss, x.length ≤ 1000000 := by
  refine ⟨?_, fun x hx => ?_⟩
  · unfold lotsF
    rw [lotsF_len, List.length_singleton, Nat.one_mul]
    exact Nat.le_trans (Nat.pow_le_pow_right (by decide) hl) (by decide : 2 ^ 12 ≤ 1000000)
  · have := lotsF_mem ss [[]] 0 (by simp) x hx
    omega
section
variable {P : Program} {w : World} {K : PySem.W.Frag} {mg : Str → Option Value} {base : Heap}
def spLots : FS := fun rs k => ∃ ss : List Int, rs = [.d (tupI ss)] ∧ ss.length ≤ 12 ∧ k (.ol ((sortLots (lotsF ss)).map tupI))
def encT : Option (List Int) → PyData
  | none => .none
  | some l => tupI l
theorem Fl.t (o : Option (List Int)) : Fl 1 (encT o) := by cases o with
  | none => exact .none
  | some l => exact .tupI l
theorem eqv_t (a b : Option (List Int)) : PyData.eqv (encT a) (encT b) = decide (a = b) := by
  cases a <;> cases b
  · simp [encT, PyData.eqv]
  · simp [encT, tupI, PyData.eqv]
  · simp [encT, tupI, PyData.eqv]
  · simp only [encT, tupI, eqv_tupI, Option.some.injEq]
theorem Rise.filter {n : Int} {ss : List Int} (h : Rise n ss) (f : Int → Bool) : Rise n (ss.filter f) := ⟨h.up.filter f, fun s hs => h.of s (List.mem_filter.mp hs).1⟩
/-- when that lot is gone, the next one takes the seat -/
def goOk (n : Int) (ss : List Int) (seat : Int) (lot : List Int) : Bool := decide ((nextOf n (ss.filter fun o => !inI o lot)).map (·.1) = some seat)
def goF (n : Int) (ss : List Int) (seat : Int) : Option (List Int) := (sortLots (lotsF ss)).find? (goOk n ss seat)
theorem find_at {α : Type} {p : α → Bool} : ∀ {l : List α} {i : Nat} {x : α}, l[i]? = some x → p x = true → (∀ y ∈ l.take i, p y = false) → l.find? p = some x
  | [], i, x, e, _, _ => by simp at e
  | a :: r, 0, x, e, hp, _ => by
    simp only [List.getElem?_cons_zero, Option.some.injEq] at e
    subst e
    rw [List.find?_cons, hp]
  | a :: r, i + 1, x, e, hp, h => by
    rw [List.find?_cons, h a (by simp)]
    exact find_at (by simpa using e) hp fun y hy => h y (by simp [hy])
theorem find_none {α : Type} {p : α → Bool} {l : List α} (h : ∀ y ∈ l, p y = false) : l.find? p = none := List.find?_eq_none.mpr fun y hy => by rw [h y hy]; decide
end
end Sit

namespace Sit
open PySem PySem.Spec L2 Ab
open PyProof.Rows (envOfC)
section
variable {P : Program} {w : World} {K : PySem.W.Frag} {mg : Str → Option Value} {base : Heap}
theorem scCellAt : FnScope ["script", "k"] ["script", "k"] (defScope s_law_cell_at) := ⟨rfl, rfl, rfl, by decide +kernel, rfl, by decide +kernel, by decide +kernel⟩
def spCellAt : FS := fun rs k => ∃ (ns : List Int) (i : Int), rs = [.scr ns, .d (.int i)] ∧ 0 ≤ i ∧ ∀ c : Int, k (.d (.int c))
theorem has_cellAt (T : Bt mg) (d : Df K mg "_law_cell_at" s_law_cell_at ["script", "k"]) : Has P w K mg base 1 "_law_cell_at" ["script", "k"] spCellAt := by
  refine has_of d scCellAt (fun rs k ⟨_, _, e, _⟩ => by rw [e]; rfl) fun f cdv A outer s H E hr B rs k ⟨ns, i, e, h0, q⟩ => ?_
  subst e
  refine rs_cons <| rs_if <| et_lt <| ee_var 1 rfl <| ee_lenL T.len <| el_scr 0 rfl ?_
  refine ifD (fun h => ?_) (fun h => ?_)
  · rw [List.length_map] at h
    obtain ⟨j, rfl⟩ : ∃ j : Nat, i = (j : Int) := ⟨i.toNat, by omega⟩
    have hi : j < ns.length := by omega
    refine rs_one <| rs_ret <| ee_ixL <| el_scr 0 rfl <| ee_var 1 rfl ⟨.int ns[j], ?_, q _⟩
    refine atI_nat ?_
    rw [List.getElem?_map, List.getElem?_eq_getElem hi]
    rfl
  · exact rs_nil <| rs_one <| rs_ret <| ee_int (q 0)
theorem scDraws : FnScope ["cell", "many", "size", "found", "rest", "stirred", "k"] ["cell", "many", "size"] (defScope s_law_draws) := ⟨rfl, rfl, rfl, by decide +kernel, rfl, by decide +kernel, by decide +kernel⟩
def spDraws : FS := fun rs k => ∃ (c many size : Int), rs = [.d (.int c), .d (.int many), .d (.int size)] ∧ 0 ≤ many ∧ many ≤ 1000 ∧ 0 < size ∧ size < 1000000 ∧ ∀ ns : List Int, (ns.length : Int) = many → (∀ n ∈ ns, 0 ≤ n ∧ n < size) → k (.ol (ns.map .int))
theorem has_draws (T : Bt mg) (d : Df K mg "_law_draws" s_law_draws ["cell", "many", "size"]) : Has P w K mg base 1 "_law_draws" ["cell", "many", "size"] spDraws := by
  refine has_of d scDraws (fun rs k ⟨_, _, _, e, _⟩ => by rw [e]; rfl) fun f cdv A outer s H E hr B rs k ⟨c, many, size, e, h0, h1, h2, h3, q⟩ => ?_
  subst e
  have nd := scDraws.nd
  refine rs_cons <| rs_asg 3 nd <| ee_lst <| ed_nil ?_
  refine rs_cons <| rs_asg 4 nd <| ee_mul <| ee_var 0 rfl <| ee_intB T.int <| ee_ge <| ee_var 0 rfl <| ee_pow <| ee_int <| ee_int ⟨⟨by decide, by decide, by decide⟩, ?_, ?_⟩
  · refine .inr ?_
    split <;> decide
  refine rs_cons <| rs_asg 5 nd <| ee_mod <| ee_var 0 rfl <| ee_int ⟨by decide, ?_⟩
  have hrest : 0 ≤ c * (if decide ((10 : Int) ^ (18 : Int).toNat ≤ c) = true then 1 else 0) := by
    by_cases h : (10 : Int) ^ (18 : Int).toNat ≤ c
    · rw [if_pos (decide_eq_true h)]
      have : (0 : Int) ≤ 10 ^ (18 : Int).toNat := by decide
      omega
    · rw [if_neg (by rw [decide_eq_false h]; decide)]
      omega
  generalize c * (if decide ((10 : Int) ^ (18 : Int).toNat ≤ c) = true then 1 else 0) = rest at hrest
  have hst : 0 ≤ c % 2305843009213693951 ∧ c % 2305843009213693951 < 2305843009213693951 := ⟨Int.emod_nonneg _ (by decide), Int.emod_lt_of_pos _ (by decide)⟩
  generalize c % 2305843009213693951 = stirred at hst
  refine rs_cons <| rs_for [6] PassesOwn.never rfl <| ei_rng1 T.range <| ee_add <| ee_var 1 rfl <| ee_int ⟨⟨by omega, by omega⟩, ?_⟩
  refine ⟨fun i Γ' => ∃ (ns : List Int) (re st : Int) (z : Sl), Γ' = [.d (.int c), .d (.int many), .d (.int size), .ol (ns.map .int), .d (.int re), .d (.int st), z] ∧ ns.length = i - 3 ∧ (∀ n ∈ ns, 0 ≤ n ∧ n < size) ∧ 0 ≤ re ∧ 0 ≤ st ∧ st < 2305843009213693951, ⟨[], _, _, _, rfl, rfl, by simp, hrest, hst⟩, fun i d Γ' hd ⟨ns, re, st, z, hΓ, hl, hn, hre, hs0, hs1⟩ => ?_, fun Γ' ⟨ns, re, st, z, hΓ, hl, hn, _⟩ => ?_⟩
  · subst hΓ
    obtain ⟨hi, rfl⟩ := rg_get_inv hd
    have hi : i < (many + 3).toNat := hi
    rw [Int.zero_add]
    refine at_name 6 nd ?_
    refine rs_cons <| rs_asg 5 nd <| ee_mod <| ee_add <| ee_add <| ee_add <| ee_mul <| ee_var 5 rfl <| ee_var 5 rfl ⟨.inl ⟨by omega, by omega⟩, ee_mul <| ee_int <| ee_var 5 rfl ⟨.inl (by decide), ee_var 6 rfl <| ee_int <| ee_int ⟨by decide, ?_⟩⟩⟩
    have hs2 : 0 ≤ (st * st + 48271 * st + (i : Int) + 1) % 2305843009213693951 ∧ (st * st + 48271 * st + (i : Int) + 1) % 2305843009213693951 < 2305843009213693951 := ⟨Int.emod_nonneg _ (by decide), Int.emod_lt_of_pos _ (by decide)⟩
    generalize (st * st + 48271 * st + (i : Int) + 1) % 2305843009213693951 = st2 at hs2
    have hadd : ∀ v : Int, 0 ≤ v → v < size → 2 < i → (ns ++ [v]).length = i + 1 - 3 ∧ ∀ n ∈ ns ++ [v], 0 ≤ n ∧ n < size := fun v h0 h1 h2 => by
      refine ⟨by rw [List.length_append, List.length_singleton, hl]; omega, fun n hn' => ?_⟩
      rcases List.mem_append.mp hn' with z | z
      · exact hn n z
      · rw [List.mem_singleton.mp z]; exact ⟨h0, h1⟩
    have hz : (ns.map PyData.int).length < 1000000 := by rw [List.length_map, hl]; omega
    have em : ∀ v : Int, ns.map PyData.int ++ [.int v] = (ns ++ [v]).map PyData.int := fun v => by rw [List.map_append]; rfl
    refine rs_one <| rs_if <| et_of_w <| ew_and <| et_gt <| ee_var 6 rfl <| ee_int ?_
    refine ifD (fun h => ?_) (fun h => ?_)
    · refine ew_and1 <| et_gt <| ee_var 4 rfl <| ee_int ?_
      refine ifD (fun h' => ?_) (fun h' => ?_)
      · refine rs_cons <| rs_app 3 rfl hz <| ee_mod <| ee_var 4 rfl <| ee_var 2 rfl ⟨h2, ?_⟩
        refine rs_one <| rs_asg 4 nd <| ee_fdiv <| ee_var 4 rfl <| ee_var 2 rfl ⟨⟨h2, by omega⟩, ?_⟩
        have ha := hadd (re % size) (Int.emod_nonneg _ (by omega)) (Int.emod_lt_of_pos _ h2) (by omega)
        exact ⟨ns ++ [re % size], re / size, st2, .d (.int i), by rw [← em]; rfl, ha.1, ha.2, Int.ediv_nonneg hre (by omega), hs2⟩
      · refine rs_one <| rs_if <| et_gt <| ee_var 6 rfl <| ee_int ?_
        refine ifD (fun h => ?_) (fun h => by omega)
        refine rs_one <| rs_app 3 rfl hz <| ee_mod <| ee_fdiv <| ee_var 5 rfl <| ee_int ⟨⟨by decide, by decide⟩, ee_var 2 rfl ⟨h2, ?_⟩⟩
        have ha := hadd (st2 / 4096 % size) (Int.emod_nonneg _ (by omega)) (Int.emod_lt_of_pos _ h2) (by omega)
        exact ⟨ns ++ [st2 / 4096 % size], re, st2, .d (.int i), by rw [← em]; rfl, ha.1, ha.2, hre, hs2⟩
    · refine rs_one <| rs_if <| et_gt <| ee_var 6 rfl <| ee_int ?_
      refine ifD (fun h => by omega) (fun h => ?_)
      exact rs_nil ⟨ns, re, st2, .d (.int i), rfl, by omega, hn, hre, hs2⟩
  · subst hΓ
    refine rs_one <| rs_retOwn 3 rfl <| q ns ?_ hn
    rw [rg_length] at hl
    omega
/-! the bags: made by hand over the heap, for they change -/
def HasH (P : Program) (w : World) (K : PySem.W.Frag) (mg : Str → Option Value) (base : Heap) (n : Nat) (x : Str) (ps : List Str) (sp : Sp) : Prop :=
  ∃ f fd, FnOk P w K mg base CX0 n f fd ps sp ∧ mg x = some (.ref f) ∧ PySem.W.keepIn K (.ref f) = true ∧ Binds K fd ps []
def Drawn (ns : List Int) : Prop := ns.length = 400 ∧ ∀ n ∈ ns, 0 ≤ n ∧ n < 1000
/-- no bags -/
abbrev B0 (K : PySem.W.Frag) : Bg := ⟨fun _ => False, lamTabs K⟩
/-- a new bag -/
structure NewBag (G' H H' : Hp) (b : Addr) : Prop where
  new : H b = none
  gn : G' b = none
  at_ : ∃ dl ms, H dl = none ∧ H' b = some (.lst [.ref dl, .int 0]) ∧ H' dl = some (.lst (ms.map V.int)) ∧ Drawn ms
theorem scBag : FnScope ["script", "k"] ["script", "k"] (defScope s_law_bag) := ⟨rfl, rfl, rfl, by decide +kernel, rfl, by decide +kernel, by decide +kernel⟩
def spBag (K : PySem.W.Frag) : Sp := fun vs H Q _ => ∃ (a : Addr) (ns : List Int) (i : Int), ∃ G, vs = [.ref a, .int i] ∧ Ok (B0 K) G H ∧ L2.SqL K G a (ns.map V.int) ∧ 0 ≤ i ∧ ∀ b G' H', Grow (B0 K) G H G' H' → NewBag G' H H' b → Q (.ref b) H'
theorem has_bag (d : Df K mg "_law_bag" s_law_bag ["script", "k"]) (h1 : Has P w K mg base 1 "_law_cell_at" ["script", "k"] spCellAt) (h2 : Has P w K mg base 1 "_law_draws" ["cell", "many", "size"] spDraws) : HasH P w K mg base 2 "_law_bag" ["script", "k"] (spBag K) := by
  obtain ⟨f, fd, F, hm, hb⟩ := d
  obtain ⟨f1, fd1, F1, m1, k1, b1⟩ := h1
  obtain ⟨f2, fd2, F2, m2, k2, b2⟩ := h2
  refine ⟨f, fd, F.ok scBag (fun vs H Q E ⟨_, _, _, _, e, _⟩ => by rw [e]; rfl) (fun cdv A outer s H vs Q E hr ⟨a, ns, i, G, e, ok, hS, h0, q⟩ => ?_), hm, F.kp, hb⟩
  subst e
  refine ⟨_, PSs.nox (pss_one (ps_ret (pe_lst (pa_cons (pe_call F2 hr rfl m2 k2 b2 .nil pass0 (pa_cons (pe_call F1 hr rfl m1 k1 b1 .nil pass0 (pa_cons (pv 0) (pa_cons (pv 1) pa_nil))) (pa_cons pe_int (pa_cons pe_int pa_nil)))) (pa_cons pe_int pa_nil))))), ?_⟩
  refine ⟨_, rfl, _, rfl, B0 K, G, [.scr ns, .d (.int i)], fun r => ∃ c, r = .d (.int c), rfl, ok, .cons ⟨rfl, a, rfl, hS⟩ (.cons ⟨rfl, .int i⟩ .nil), ⟨ns, i, rfl, h0, fun c => ⟨c, rfl⟩⟩, fun v G1 H1 r g1 re ⟨c, er⟩ => ?_⟩
  subst er
  have hv : Ab.Dp K G1 v (.int c) := re.1
  cases hv
  refine ⟨B0 K, G1, [.d (.int c), .d (.int 400), .d (.int 1000)], fun r => ∃ ms, Drawn ms ∧ r = .ol (ms.map .int), rfl, g1.ok, .cons ⟨rfl, .int c⟩ (.cons ⟨rfl, .int 400⟩ (.cons ⟨rfl, .int 1000⟩ .nil)), ⟨c, 400, 1000, rfl, by decide, by decide, by decide, by decide, fun ms hl hm => ⟨ms, ⟨by omega, hm⟩, rfl⟩⟩, fun v G2 H2 r g2 re ⟨ms, hms, er⟩ => ?_⟩
  subst er
  obtain ⟨⟨dl, xs, ev, nb, z, hp, da⟩, fr⟩ := re
  subst ev
  have g12 := g1.trans g2
  have hdl := g1.free (fr rfl dl rfl)
  refine ⟨by show 2 ≤ sizeLine; decide, fun b hb => q b G2 _ (g12.trans (Grow.newOwn g2.ok hb _)) ⟨g12.free hb, g2.ok.ex.free hb, dl, ms, hdl, upd_same, ?_, hms⟩⟩
  rw [upd_ne (ne_of_none hp hb), hp, DpAll.ints_inv da]
theorem scBags : FnScope ["script", "limit", "k"] ["script", "limit"] (defScope s_law_bags) := ⟨rfl, rfl, rfl, by decide +kernel, rfl, by decide +kernel, by decide +kernel⟩
def spBags (K : PySem.W.Frag) : Sp := fun vs H Q _ => ∃ (a : Addr) (ns : List Int) (l : Int) (G : Hp), vs = [.ref a, .int l] ∧ Ok (B0 K) G H ∧ L2.SqL K G a (ns.map V.int) ∧ l ≤ 1000 ∧ ∀ p (bs : List Addr) G' H', Grow (B0 K) G H G' H' → H p = none → H' p = some (.lst (bs.map V.ref)) → (∀ b ∈ bs, NewBag G' H H' b) → Q (.ref p) H'
theorem has_bags (T : Bt mg) (d : Df K mg "_law_bags" s_law_bags ["script", "limit"]) (h1 : HasH P w K mg base 2 "_law_bag" ["script", "k"] (spBag K)) : HasH P w K mg base 3 "_law_bags" ["script", "limit"] (spBags K) := by
  obtain ⟨f, fd, F, hm, hb⟩ := d
  obtain ⟨f1, fd1, F1, m1, k1, b1⟩ := h1
  refine ⟨f, fd, F.ok scBags (fun vs H Q E ⟨_, _, _, _, e, _⟩ => by rw [e]; rfl) (fun cdv A outer s H vs Q E hr ⟨a, ns, l, G, e, ok, hS, hl, q⟩ => ?_), hm, F.kp, hb⟩
  subst e
  have nd := scBags.nd
  refine ⟨_, PSs.nox (pss_one (ps_ret (pe_lc (own := [("k", 2)]) (g := gName 2) (tt := tYes) rfl nd (pi_range1 rfl T.range (pa_cons (pe_callB (call_max2 rfl) rfl T.max boot_max (pa_cons pe_int (pa_cons (pe_callB (call_min2 rfl) rfl T.min boot_min (pa_cons (pv 1) (pa_cons (pe_callB call_len_seq rfl T.len boot_len (pa_cons (pv 0) pa_nil)) pa_nil))) pa_nil))) pa_nil))
    (blkOk_by (N := ["script", "limit", "k"]) (sc := defScope s_law_bags) (by decide +kernel)) (fun _ _ _ _ _ => pg_name (i := 2) nd rfl (Or.inl rfl)) (fun _ _ _ _ _ => pts_nil) (fun _ _ _ _ _ => pe_call F1 hr rfl m1 k1 b1 .nil pass0 (pa_cons (pv 0) (pa_cons (pv 2) pa_nil)))))), ?_⟩
  refine ⟨_, rfl, _, rfl, a, _, rfl, .inl (sqL_ext ok.ex hS), _, _, rfl, _, _, rfl, ?_⟩
  generalize hm1 : (if (((ns.map V.int).length : Nat) : Int) < l then (((ns.map V.int).length : Nat) : Int) else l) = m
  have hb : m ≤ 1000 := by rw [← hm1]; split <;> omega
  clear hm1
  have hb2 : 1 ≤ (if m > 1 then m else 1) ∧ (if m > 1 then m else 1) ≤ 1000 := by split <;> omega
  generalize (if m > 1 then m else 1) = m2 at hb2
  refine ⟨m2, rfl, by omega, by omega, fun D hD => ?_⟩
  have nbD := ok.notfree hD
  refine lc_range (lo := 0) (n := m2.toNat) (fun i H' => ∃ (bs : List Addr) (G' : Hp), Grow (B0 K) G H G' H' ∧ G' D = none ∧ H' D = some (.lst (bs.map V.ref)) ∧ bs.length ≤ i ∧ ∀ b ∈ bs, NewBag G' H H' b) ⟨[], G, Grow.newOwn ok hD _, ok.ex.free hD, upd_same, Nat.le_refl _, by simp⟩ (fun i H' hi ⟨bs, G', g, gd, hd, hl, hbs⟩ => ?_) (fun H' ⟨bs, G', g, gd, hd, hl, hbs⟩ => q D bs G' H' g hD hd hbs)
  refine ⟨rfl, ?_⟩
  simp only [tYes, ↓reduceIte]
  refine ⟨_, rfl, _, rfl, a, ns, 0 + (i : Int), G', rfl, g.ok, sqL_ext g.g hS, by omega, fun b G2 H2 g2 nb => ?_⟩
  have hd2 := g2.h _ _ nbD hd
  have gd2 := g2.n _ _ hd gd
  refine ⟨bs.map V.ref, hd2, ?_, bs ++ [b], G2, ⟨(g.trans g2).g, fun x o nx ex => ?_, (g.trans g2).n, g2.ok.mut nbD gd2 _⟩, gd2, ?_, ?_, fun c hc => ?_⟩
  · rw [List.length_map]
    exact Nat.lt_of_le_of_lt hl (Nat.lt_of_lt_of_le (show i < 1001 by omega) (by decide))
  · rw [upd_ne (ne_of_none ex hD)]
    exact (g.trans g2).h _ _ nx ex
  · rw [upd_same, List.map_append]
    rfl
  · rw [List.length_append, List.length_singleton]
    omega
  · have keep : ∀ x o, x ≠ D → H2 x = some o → upd H2 D (.lst (bs.map V.ref ++ [.ref b])) x = some o := fun x o n ex => by rw [upd_ne n]; exact ex
    rcases List.mem_append.mp hc with z | z
    · obtain ⟨c0, cg, dl, ms, h0, h1, h2, h3⟩ := hbs c z
      have nbc : ¬ (B0 K) c := ok.notfree c0
      have nbl : ¬ (B0 K) dl := ok.notfree h0
      have n1 : c ≠ D := fun z => by
        rw [z, hd] at h1
        cases bs with
        | nil => cases z
        | cons x r =>
          cases r with
          | nil => simp at h1
          | cons y r => simp at h1
      have n2 : dl ≠ D := fun z => by
        rw [z, hd] at h2
        cases bs with
        | nil => cases z
        | cons x r =>
          cases ms with
          | nil => simp at h2
          | cons y r => simp at h2
      exact ⟨c0, g2.n _ _ h1 cg, dl, ms, h0, keep _ _ n1 (g2.h _ _ nbc h1), keep _ _ n2 (g2.h _ _ nbl h2), h3⟩
    · rw [List.mem_singleton.mp z]
      obtain ⟨c0, cg, dl, ms, h0, h1, h2, h3⟩ := nb
      have n1 : b ≠ D := fun z => by rw [z, hd] at c0; cases c0
      have n2 : dl ≠ D := fun z => by rw [z, hd] at h0; cases h0
      exact ⟨g.free c0, cg, dl, ms, g.free h0, keep _ _ n1 h1, keep _ _ n2 h2, h3⟩
/-- the law's loop over its bags -/
def KeepS (Γ Γ2 : List Sl) : Prop := Γ2.length = Γ.length ∧ ∀ (j : Nat) s, Γ[j]? = some s → s = .x ∨ Γ2[j]? = some s
theorem EnvOk.keepS {B : Bg} {G H : Hp} {σ : L2.St} {Γ Γ2 : List Sl} (h : EnvOk K B G H σ Γ2) (k : KeepS Γ Γ2) : EnvOk K B G H σ Γ := by
  have at_ : ∀ (j : Nat) s, Γ[j]? = some s → s ≠ .x → Γ2[j]? = some s := fun j s e n => by
    rcases k.2 j s e with z | z
    · exact absurd z n
    · exact z
  exact ⟨h.len.trans k.1, h.tt, fun i s e n => h.ok i s (at_ i s e n) n, fun i j s t v ne e1 e2 o1 o2 => h.sep i j s t v ne (at_ i s e1 (by rintro rfl; cases o1)) (at_ j t e2 (by rintro rfl; cases o2)) o1 o2⟩
theorem StOk.keepS {B : Bg} {G0 H0 G H : Hp} {σ : L2.St} {Γ Γ2 : List Sl} (h : StOk K B G0 H0 σ G H Γ2) (k : KeepS Γ Γ2) : StOk K B G0 H0 σ G H Γ :=
  ⟨h.gr, EnvOk.keepS h.en k, fun i s p e o ev => by
    rcases k.2 i s e with z | z
    · subst z; cases o
    · exact h.fr i s p z o ev⟩
/-- other bags -/
theorem EnvOk.other {B B' : Bg} {G H G' H' : Hp} {σ : L2.St} {Γ : List Sl} (h : EnvOk K B G H σ Γ) (tt : B'.tabs = lamTabs K) (hG : Ext G G') (hH : ∀ a o, ¬ B a → H a = some o → H' a = some o) (hn : ∀ a o, H a = some o → G a = none → G' a = none) (hB : ∀ a o, H a = some o → ¬ B a → ¬ B' a) (nb : ∀ j : Nat, Γ[j]? ≠ some .bg) : EnvOk K B' G' H' σ Γ := by
  refine ⟨h.len, tt, fun i s e n => ?_, h.sep⟩
  obtain ⟨v, e1, hs⟩ := h.ok i s e n
  refine ⟨v, e1, ?_⟩
  cases s with
  | x => trivial
  | d d => exact Dp.ext hG _ _ hs
  | ol ds =>
    obtain ⟨p, xs, e2, b2, z, hp, da⟩ := hs
    exact ⟨p, xs, e2, hB _ _ hp b2, hn _ _ hp z, hH _ _ b2 hp, DpAll.ext hG _ _ da⟩
  | od ds =>
    obtain ⟨p, xs, e2, b2, z, hp, da⟩ := hs
    exact ⟨p, xs, e2, hB _ _ hp b2, hn _ _ hp z, hH _ _ b2 hp, DpK.ext hG da⟩
  | kd ds =>
    obtain ⟨p, xs, e2, b2, z, hp, da⟩ := hs
    exact ⟨p, xs, e2, hB _ _ hp b2, hn _ _ hp z, hH _ _ b2 hp, KdK.ext hG da⟩
  | bg => exact absurd e (nb i)
  | rv u => exact hs
  | scr ns =>
    obtain ⟨a, e2, q⟩ := hs
    exact ⟨a, e2, sqL_ext hG q⟩
  | exn a dx f d =>
    obtain ⟨e2, u, q, r⟩ := hs
    exact ⟨e2, u, hG _ _ q, Dp.ext hG _ _ r⟩
  | pp φ => exact fun G2 e => hs G2 (hG.trans e)
theorem rs_forBags {X : Cx} {Γ : List Sl} {D : Dn} {body : List Stmt} {e1 e2 : Expr} {pos p1 p2 p3 : Pos} {x : Str} {n k0 : Nat} (ib : Nat) (hp : PassesOwn (model X.prog X.w) X.A X.env X.xe) (hc : X.calm = true) (hN : X.N.Nodup) (F : HasH X.prog X.w X.K X.mg X.base n "_law_bags" ["script", "limit"] (spBags X.K)) (hr : Room k0 X.A) (hn : n ≤ k0)
    (hib : Γ[ib]? = some .x) (hbg : ∀ (j : Nat), Γ[j]? ≠ some .bg)
    (ha : EvA X (B0 X.K) [e1, e2] Γ fun rs => ∃ (ns : List Int) (l : Int), rs = [.scr ns, .d (.int l)] ∧ l ≤ 1000)
    (step : ∀ B : Bg, RunSs X B body (Γ.set ib .bg) { nx := KeepS Γ, ct := KeepS Γ, rt := fun r => ∃ d, r = .d d ∧ D.rt (.d d) }) (fin : D.nx Γ)
    (hi : X.N[ib]? = some x := by rfl) (hx : Loc X.env.scope x := by first | exact Or.inl rfl | exact Or.inr rfl) (hf : X.fn x = true ∨ X.env.scope.names.lookup x = some .local := by first | exact .inl rfl | exact .inr rfl) (hg : Gl X "_law_bags" := by rfl)
    (he : starEach [e1, e2] X.env = (false, eval e1 X.env) :: starEach [e2] X.env := by rfl) (hpl : (backTo p3 (starEach [e2] X.env)).any (·.1) = false := by rfl)
    (hs : ∀ x, foldedSetIterable (.Call (.Name "_law_bags" p2) [e1, e2] [] p3) X.env x = pure x := by intro _; rfl) : RunS X (B0 X.K) (.For (.Name x p1) (.Call (.Name "_law_bags" p2) [e1, e2] [] p3) body [] pos) Γ D := by
  obtain ⟨f, fd, F, hm, hk, hb⟩ := F
  refine ⟨fun G0 H0 σ G H DH s d => tS_of (ps_for hp hc (pi_list (pe_call F (hr.mono hn) hg hm hk hb .nil pass0 pa_self (by decide) he hpl)) (pg_name hN hi hx hf) pss_self hs) ?_⟩
  refine ha.run σ G H _ s.gr.ok s.en fun vs G1 H1 rs g1 ao ⟨ns, l, ers, hl⟩ => ?_
  subst ers
  have hv : ∃ a, vs = [.ref a, .int l] ∧ L2.SqL X.K G1 a (ns.map V.int) := by
    cases ao with
    | cons h1 h2 =>
      cases h2 with
      | cons h3 h4 =>
        cases h4
        obtain ⟨a, e, hs⟩ : ∃ a, _ = V.ref a ∧ L2.SqL X.K G1 a (ns.map V.int) := h1.2
        have h5 : Ab.Dp X.K G1 _ (.int l) := h3.2
        cases h5
        subst e
        exact ⟨a, rfl, hs⟩
  obtain ⟨a, rfl, hS⟩ := hv
  refine ⟨a, ns, l, G1, rfl, g1.ok, hS, hl, fun p bs G3 H2 g3 np hp2 hbs => ?_⟩
  have s1 := s.grow g1
  -- the bags, a ghost heap with their draws
  let B : Bg := ⟨fun b => b ∈ bs, lamTabs X.K⟩
  have b0B : ∀ a, ¬ B a → ¬ (B0 X.K) a := fun a h z => h (z.elim (fun f => f.elim) fun q => .inr q)
  let G2 : Hp := fun b => if b ∈ bs then none else match H1 b with
    | none => H2 b
    | some _ => G1 b
  have g2in : ∀ b, b ∈ bs → G2 b = none := fun b h => if_pos h
  have g2new : ∀ b, b ∉ bs → H1 b = none → G2 b = H2 b := fun b h e => by
    show (if b ∈ bs then none else match H1 b with
      | none => H2 b
      | some _ => G1 b) = _
    rw [if_neg h, e]
  have g2old : ∀ b o, H1 b = some o → G2 b = G1 b := fun b o e => by
    have h : b ∉ bs := fun h => by rw [(hbs b h).new] at e; cases e
    show (if b ∈ bs then none else match H1 b with
      | none => H2 b
      | some _ => G1 b) = _
    rw [if_neg h, e]
  have eG : Ext G1 G2 := fun a o e => by rw [g2old a o (g1.ok.ex a o e)]; exact e
  have e3 : Ext G3 G2 := fun a o e => by
    have ha : a ∉ bs := fun h => by rw [(hbs a h).gn] at e; cases e
    cases h1 : H1 a with
    | none => rw [g2new a ha h1]; exact g3.ok.ex a o e
    | some u =>
      rw [g2old a u h1]
      cases h2 : G1 a with
      | none => rw [g3.n a u h1 h2] at e; cases e
      | some v => rw [g3.g a v h2] at e; exact e
  have ok2 : Ok B G2 H2 := by
    refine ⟨fun a o e => ?_, fun b hb => ⟨g2in b hb, ?_⟩, fun t ht => ?_⟩
    · by_cases ha : a ∈ bs
      · rw [g2in a ha] at e; cases e
      · cases h1 : H1 a with
        | none => rw [g2new a ha h1] at e; exact e
        | some u =>
          rw [g2old a u h1] at e
          exact g3.ok.ex _ _ (g3.g a o e)
    · obtain ⟨_, _, dl, ms, h0, h1, h2, h3⟩ := hbs b hb
      refine ⟨dl, 0, ms, h1, ?_, h3.1, h3.2, Int.le_refl _⟩
      rw [g2new dl (fun hd => ?_) h0]
      · exact h2
      · obtain ⟨_, _, dl', ms', _, h1', _⟩ := hbs dl hd
        rw [h2] at h1'
        cases ms with
        | nil => simp at h1'
        | cons y r => simp at h1'
    · obtain ⟨z, y⟩ := g3.ok.tab t ht
      obtain ⟨z1, y1⟩ := g1.ok.tab t ht
      obtain ⟨ps, y2⟩ := y1.some
      exact ⟨by rw [g2old _ _ y2]; exact z1, y.mono e3 rfl⟩
  have nall : ∀ a o, H1 a = some o → G1 a = none → G2 a = none := fun a o e z => by rw [g2old a o e]; exact z
  have some1 : ∀ a o, H0 a = some o → ∃ u, H1 a = some u := fun a o e => by
    by_cases ha : (B0 X.K) a
    · exact s1.gr.ok.some_of ha
    · exact ⟨o, s1.gr.h a o ha e⟩
  have gr2 : Grow B G0 H0 G2 H2 := ⟨s1.gr.g.trans eG, fun a o na e => g3.h _ _ (b0B a na) (s1.gr.h a o (b0B a na) e), fun a o e z => let ⟨u, hu⟩ := some1 a o e; nall a u hu (s1.gr.n a o e z), ok2⟩
  have en2 : EnvOk X.K B G2 H2 σ Γ := EnvOk.other s1.en rfl eG g3.h nall (fun a o e nb h => h.elim (fun h => by rw [(hbs a h).new] at e; cases e) fun q => nb (.inr q)) hbg
  have st2 : StOk X.K B G2 H0 σ G2 H2 Γ := StOk.base ⟨gr2, en2, s1.fr⟩
  have pbs : p ∉ bs := fun h => by
    obtain ⟨_, _, dl, ms, _, h1, _⟩ := hbs p h
    rw [hp2] at h1
    cases bs with
    | nil => cases h
    | cons x r =>
      cases r with
      | nil => simp at h1
      | cons y r => simp at h1
  have gp : G2 p = some (.lst (bs.map V.ref)) := by rw [g2new p pbs np]; exact hp2
  have back : ∀ {σ' : L2.St} {G' H' : Hp}, StOk X.K B G2 H0 σ' G' H' Γ → StOk X.K (B0 X.K) G0 H0 σ' G' H' Γ := fun {σ' G' H'} s' => by
    have s'' := s'.rebase gr2
    exact ⟨⟨s''.gr.g, fun a o na e => s''.gr.h a o (fun h => h.elim (fun h => by obtain ⟨u, hu⟩ := some1 a o e; rw [(hbs a h).new] at hu; cases hu) fun q => na (.inr q)) e, s''.gr.n, ⟨s''.gr.ok.ex, fun _ h => h.elim, s''.gr.ok.tab⟩⟩,
      EnvOk.other s''.en rfl (Ext.refl _) (fun _ _ _ z => z) (fun _ _ _ z => z) (fun a o e nb h => nb (h.elim (fun f => f.elim) fun q => .inr q)) hbg, s''.fr⟩
  refine ⟨p, rfl, ⟨_, L2.SqL.of hp2⟩, for_list (xs := bs.map V.ref) (fun i σ' H' => ∃ G', StOk X.K B G2 H0 σ' G' H' Γ) ⟨G2, st2⟩ (fun i σ' H' _ ⟨G', s'⟩ => L2.SqL.of (s'.gr.ok.ex _ _ (s'.gr.g _ _ gp))) (fun i y σ' H' hy ⟨G', s'⟩ => ?_) (fun σ' H' ⟨G', s'⟩ => d.nx Γ σ' G' H' (back s') fin)⟩
  rw [List.getElem?_map] at hy
  cases hb : bs[i]? with
  | none => rw [hb] at hy; cases hy
  | some b =>
    rw [hb] at hy
    cases hy
    have s3 : StOk X.K B G2 H0 (σ'.set ib (some (.ref b))) G' H' (Γ.set ib .bg) := s'.asg (Grow.refl s'.gr.ok) (show Res X.K B H' G' H' (.ref b) .bg from ⟨⟨b, rfl, List.mem_of_getElem? hb⟩, fun z => by cases z⟩) ib
    refine (step B).run G2 H0 _ G' H' _ s3 ⟨fun Γ2 σ2 G4 H4 s4 k4 => ⟨G4, StOk.keepS s4 k4⟩, fun v G4 H4 r g4 re ⟨dd, er, q⟩ => ?_, fun _ _ _ _ _ q => q.elim, fun Γ2 σ2 G4 H4 s4 k4 => ⟨G4, StOk.keepS s4 k4⟩, fun _ _ _ => trivial⟩
    subst er
    have g5 := gr2.rebase g4
    exact d.rt v G4 H4 (.d dd) ⟨g5.g, fun a o na e => g5.h a o (fun h => h.elim (fun h => by obtain ⟨u, hu⟩ := some1 a o e; rw [(hbs a h).new] at hu; cases hu) fun q => na (.inr q)) e, g5.n, ⟨g5.ok.ex, fun _ h => h.elim, g5.ok.tab⟩⟩ ⟨re.1, fun z => by cases z⟩ q
/-- the law's own def -/
def spLaw (K : PySem.W.Frag) : Sp := fun vs H Q _ => ∃ (a : Addr) (ns : List Int), vs = [.ref a] ∧ L2.SqL K H a (ns.map V.int) ∧ (∀ p ∈ lamTabs K, H p.1 = some (.tbl #[])) ∧ ∀ H', Q (.bl true) H'
theorem law_of {n : Nat} {st : Stmt} {N : List Str} {f : Addr} {fd : FuncData} (F : FunD K "law" "law" (defArgs st) (defBody st) (defScope st) [] [] f fd) (S : FnScope N ["script"] (defScope st))
    (body : ∀ (cdv : Value) (A : Around) (outer : List Env) (s : Shared) (H : Hp) (E : XK), Room n (A.deeper (envOfC "law" (defScope st) s.heap.objs.size f cdv)) → ∀ ns : List Int,
      RunSs (cxOf CX0 P w K mg base N "law" (defScope st) f cdv A outer s H E).nox (B0 K) (defBody st) (startS N [.scr ns]) { nx := fun _ => False, rt := fun r => r = .d (.bool true) }) : FnOk P w K mg base CX0 (n + 1) f fd ["script"] (spLaw K) := by
  refine F.ok S (fun vs H Q E ⟨_, _, e, _⟩ => by rw [e]; rfl) (fun cdv A outer s H vs Q E hr ⟨a, ns, e, hS, hT, q⟩ => ?_)
  subst e
  refine ⟨_, pss_self.nox, ?_⟩
  classical
  let G : Hp := fun b => if (B0 K) b then none else H b
  have gin : ∀ b, (B0 K) b → G b = none := fun b h => if_pos h
  have gout : ∀ b, ¬ (B0 K) b → G b = H b := fun b h => if_neg h
  have htab : ∀ b, (B0 K) b → H b = some (.tbl #[]) := fun b h => h.elim (fun f => f.elim) fun ⟨q, hq⟩ => hT _ hq
  have okG : Ok (B0 K) G H := ⟨fun b o e => by
    by_cases hb : (B0 K) b
    · rw [gin b hb] at e; cases e
    · rw [gout b hb] at e; exact e, fun _ h => h.elim, fun p hp => ⟨gin _ (.inr ⟨p.2, hp⟩), #[], hT p hp, trivial, fun at_ cv hc => by
      have z : codeAmong at_ [] = some cv := hc
      simp [codeAmong] at z⟩⟩
  have hSG : L2.SqL K G a (ns.map V.int) := by
    rcases hS with (h | ⟨o, h⟩) | h
    · exact .inl (.inl (by rw [gout a fun z => by rw [htab a z] at h; cases h]; exact h))
    · exact .inl (.inr ⟨o, by rw [gout a fun z => by rw [htab a z] at h; cases h]; exact h⟩)
    · exact .inr h
  have ao : ArgOk K (B0 K) G H [.ref a] [.scr ns] := .cons ⟨rfl, a, rfl, hSG⟩ .nil
  refine (body cdv A outer s H E hr ns).run G H _ G H _ ⟨Grow.refl okG, envOk_start rfl ao, fun i t p e o ev => ?_⟩ ⟨fun _ _ _ _ _ q => q.elim, fun v G' H' r g re er => ?_, fun _ _ _ _ _ q => q.elim, fun _ _ _ _ _ q => q.elim, fun _ _ _ => trivial⟩
  · exfalso
    unfold startS at e
    rcases i with _ | i
    · cases e; cases o
    · rw [List.getElem?_append_right (by simp), List.getElem?_replicate] at e
      split at e
      · cases e; cases o
      · cases e
  · subst er
    have hv : Ab.Dp K G' v (.bool true) := re.1
    cases hv
    exact q H'
theorem scTake : FnScope ["bag", "many"] ["bag", "many"] (defScope s_law_take) := ⟨rfl, rfl, rfl, by decide +kernel, rfl, by decide +kernel, by decide +kernel⟩
def spTake : FS := fun rs k => ∃ many : Int, rs = [.bg, .d (.int many)] ∧ 0 < many ∧ ∀ r, 0 ≤ r → r < many → k (.d (.int r))
theorem has_take (T : Bt mg) (d : Df K mg "_law_take" s_law_take ["bag", "many"]) : Has P w K mg base 1 "_law_take" ["bag", "many"] spTake := by
  refine has_of d scTake (fun rs k ⟨_, e, _⟩ => by rw [e]; rfl) fun f cdv A outer s H E hr B rs k ⟨many, e, h0, q⟩ => ?_
  subst e
  refine rs_cons <| rs_bagset 0 rfl <| ee_add <| ee_bag1 0 rfl fun n hn => ee_int ⟨by omega, ?_⟩
  refine rs_one <| rs_ret <| ee_mod <| ee_ixL <| EvL.of <| ee_bag0 0 rfl fun ns hl hns => ee_mod <| ee_bag1 0 rfl fun m hm => ee_lenL T.len <| EvL.of <| ee_bag0 0 rfl fun ms hl2 hms => ?_
  show 0 < (((ms.map PyData.int).length : Nat) : Int) ∧ _
  rw [List.length_map, hl2]
  have h1 : 0 ≤ m % (400 : Nat) ∧ m % (400 : Nat) < 400 := ⟨Int.emod_nonneg _ (by decide), Int.emod_lt_of_pos _ (by decide)⟩
  generalize m % ((400 : Nat) : Int) = j at h1
  obtain ⟨j, rfl⟩ : ∃ i : Nat, j = (i : Int) := ⟨j.toNat, by omega⟩
  have hj : j < ns.length := by omega
  refine ⟨by decide, .int ns[j], ?_, ee_var 1 rfl ⟨h0, q _ (Int.emod_nonneg _ (by omega)) (Int.emod_lt_of_pos _ h0)⟩⟩
  refine atI_nat ?_
  rw [List.getElem?_map, List.getElem?_eq_getElem hj]
  rfl
theorem scFarDraw : FnScope ["bag", "many", "found", "left"] ["bag", "many"] (defScope s_law_far_draw) := ⟨rfl, rfl, rfl, by decide +kernel, rfl, by decide +kernel, by decide +kernel⟩
theorem has_farDraw (d : Df K mg "_law_far_draw" s_law_far_draw ["bag", "many"]) (h1 : Has P w K mg base 1 "_law_take" ["bag", "many"] spTake) : Has P w K mg base 2 "_law_far_draw" ["bag", "many"] spTake := by
  refine has_of d scFarDraw (fun rs k ⟨_, e, _⟩ => by rw [e]; rfl) fun f cdv A outer s H E hr B rs k ⟨many, e, h0, q⟩ => ?_
  subst e
  have nd := scFarDraw.nd
  refine rs_cons <| rs_par 2 3 rfl nd <| ee_int <| ee_var 1 rfl ?_
  refine rs_cons <| rs_while PassesOwn.never ⟨fun m Γ' => ∃ fo le : Int, Γ' = [.bg, .d (.int many), .d (.int fo), .d (.int le)] ∧ 0 ≤ le ∧ le.toNat ≤ m, ⟨many.toNat, 0, many, rfl, by omega, Nat.le_refl _⟩, fun m Γ' ⟨fo, le, hΓ, hl, hm⟩ => ?_⟩
  subst hΓ
  refine et_gt <| ee_var 3 rfl <| ee_int ?_
  refine ifD (fun h => ?_) (fun h => ?_)
  · refine rs_one <| rs_par 2 3 rfl nd <| ee_add <| ee_mul <| ee_int <| ee_var 2 rfl ⟨.inl (by decide), ee_call h1 hr <| ea_cons <| ee_var 0 rfl <| ea_cons <| ee_int <| ea_nil ⟨_, rfl, by decide, fun r hr0 hr1 => ee_fdiv <| ee_var 3 rfl <| ee_int ⟨⟨by decide, by decide⟩, ?_⟩⟩⟩
    have h2 : 0 ≤ le / 1000 ∧ le / 1000 < le := ⟨Int.ediv_nonneg hl (by decide), by omega⟩
    exact ⟨(le / 1000).toNat, by omega, 1000 * fo + r, le / 1000, rfl, h2.1, Nat.le_refl _⟩
  · refine rs_one <| rs_ret <| ee_ixL <| EvL.of <| ee_lst <| ed_cons <| ee_mod <| ee_var 2 rfl <| ee_var 1 rfl ⟨h0, ed_cons <| ee_int <| ed_cons <| ee_sub <| ee_var 1 rfl <| ee_int <| ed_cons <| ee_mod <| ee_var 2 rfl <| ee_var 1 rfl ⟨h0, ed_nil ?_⟩⟩
    refine ee_call h1 hr <| ea_cons <| ee_var 0 rfl <| ea_cons <| ee_int <| ea_nil ⟨_, rfl, by decide, fun r hr0 hr1 => ?_⟩
    have hq : k (.d (.int (fo % many))) := q _ (Int.emod_nonneg _ (by omega)) (Int.emod_lt_of_pos _ h0)
    have hc : r = ((0 : Nat) : Int) ∨ r = ((1 : Nat) : Int) ∨ r = ((2 : Nat) : Int) ∨ r = ((3 : Nat) : Int) := by omega
    rcases hc with rfl | rfl | rfl | rfl
    · exact ⟨_, atI_nat rfl, hq⟩
    · exact ⟨_, atI_nat rfl, q 0 (Int.le_refl _) h0⟩
    · exact ⟨_, atI_nat rfl, q (many - 1) (by omega) (by omega)⟩
    · exact ⟨_, atI_nat rfl, hq⟩
theorem scSome : FnScope ["bag", "bench", "most", "found", "turn"] ["bag", "bench", "most"] (defScope s_law_some) := ⟨rfl, rfl, rfl, by decide +kernel, rfl, by decide +kernel, by decide +kernel⟩
def spSome : FS := fun rs k => ∃ (n m : Int), rs = [.bg, .d (.int n), .d (.int m)] ∧ 0 < n ∧ 0 ≤ m ∧ m ≤ 60 ∧ ∀ ss, Rise n ss → (ss.length : Int) ≤ m → k (.d (.tuple (ss.map .int)))
theorem has_some (T : Bt mg) (d : Df K mg "_law_some" s_law_some ["bag", "bench", "most"]) (h1 : Has P w K mg base 1 "_law_take" ["bag", "many"] spTake) (h2 : Has P w K mg base 2 "_law_far_draw" ["bag", "many"] spTake) : Has P w K mg base 3 "_law_some" ["bag", "bench", "most"] spSome := by
  refine has_of d scSome (fun rs k ⟨_, _, e, _⟩ => by rw [e]; rfl) fun f cdv A outer s H E hr B rs k ⟨n, m, e, h0, hm0, hm1, q⟩ => ?_
  subst e
  have nd := scSome.nd
  refine rs_cons <| rs_asg 3 nd <| ee_dict0 ?_
  refine rs_cons <| rs_for [4] PassesOwn.never rfl <| ei_rng1 T.range <| ee_call h1 hr <| ea_cons <| ee_var 0 rfl <| ea_cons <| ee_add <| ee_var 2 rfl <| ee_int <| ea_nil ⟨_, rfl, by omega, fun t ht0 ht1 => ⟨⟨by omega, by omega⟩, ?_⟩⟩
  refine ⟨fun i Γ' => ∃ (kvs : List (Key × PyData)) (ks : List Int) (z : Sl), Γ' = [.bg, .d (.int n), .d (.int m), .od kvs, z] ∧ kvs.map (·.1) = ks.map Sum.inl ∧ ks.Nodup ∧ (∀ s ∈ ks, 0 ≤ s ∧ s < n) ∧ ks.length ≤ i, ⟨[], [], _, rfl, rfl, List.nodup_nil, by simp, Nat.le_refl _⟩, fun i d Γ' hd ⟨kvs, ks, z, hΓ, hk, hn, hin, hl⟩ => ?_, fun Γ' ⟨kvs, ks, z, hΓ, hk, hn, hin, hl⟩ => ?_⟩
  · subst hΓ
    obtain ⟨hi, rfl⟩ := rg_get_inv hd
    have hkl : kvs.length = ks.length := by
      have := congrArg List.length hk
      rwa [List.length_map, List.length_map] at this
    refine at_name 4 nd <| rs_one <| rs_dput 3 hr rfl <| ee_bl <| ee_call h2 hr <| ea_cons <| ee_var 0 rfl <| ea_cons <| ee_var 1 rfl <| ea_nil ⟨_, rfl, h0, fun r hr0 hr1 => ⟨by omega, ?_⟩⟩
    have hany : (kvs.any fun kv => decide (kv.1 = Sum.inl r)) = decide (r ∈ ks) := by
      have h1 : (kvs.any fun kv => decide (kv.1 = (Sum.inl r : Key))) = (kvs.map (·.1)).any fun x => decide (x = (Sum.inl r : Key)) := by rw [List.any_map]; rfl
      rw [h1, hk, List.any_map]
      by_cases h : r ∈ ks
      · rw [decide_eq_true h]
        exact List.any_eq_true.mpr ⟨r, h, decide_eq_true rfl⟩
      · rw [decide_eq_false h]
        refine List.any_eq_false.mpr fun x hx => ?_
        simp only [Function.comp_apply, decide_eq_true_eq]
        intro e
        exact h (Sum.inl.inj e ▸ hx)
    by_cases h : r ∈ ks
    · refine ⟨_, ks, _, rfl, ?_, hn, hin, by omega⟩
      unfold putG
      rw [hany, if_pos (decide_eq_true h), List.map_map, ← hk]
      refine List.map_congr_left fun x _ => ?_
      simp only [Function.comp_apply]
      split <;> rfl
    · refine ⟨_, ks ++ [r], _, rfl, ?_, ?_, fun s hs => ?_, by rw [List.length_append, List.length_singleton]; omega⟩
      · unfold putG
        rw [hany, if_neg (by rw [decide_eq_false h]; decide), List.map_append, List.map_append, hk]
        rfl
      · refine List.nodup_append.mpr ⟨hn, by simp, fun a ha b hb => ?_⟩
        rw [List.mem_singleton.mp hb]
        rintro rfl
        exact h ha
      · rcases List.mem_append.mp hs with z | z
        · exact hin s z
        · rw [List.mem_singleton.mp z]; exact ⟨hr0, hr1⟩
  · subst hΓ
    rw [rg_length] at hl
    refine rs_one <| rs_ret <| ee_tupleL T.tuple <| EvL.of <| ee_sortedOd 3 ks T.sorted rfl rfl hk (by omega) fun ms hp hs => ?_
    refine q ms ⟨?_, fun s hs' => hin s (hp.mem_iff.mp hs')⟩ ?_
    · have hnd : ms.Nodup := hp.nodup_iff.mpr hn
      have := hs.and hnd
      exact this.imp fun ⟨h1, h2⟩ => by omega
    · have := hp.length_eq
      omega
end
end Sit
namespace Sit
open PySem PySem.Spec L2 Ab
open PyProof.Rows (envOfC)
section
variable {P : Program} {w : World} {K : PySem.W.Frag} {mg : Str → Option Value} {base : Heap}
end
end Sit
namespace Sit
open PySem PySem.Spec L2 Ab
open PyProof.Rows (envOfC)
def encD : Dd → PyData
  | none => .tuple [.str "come"]
  | some s => .tuple [.str "go", .int s]
theorem lay_come : PyData.canLay0 (.str "come") = true := by simp only [PyData.canLay0]; decide +kernel
theorem lay_go : PyData.canLay0 (.str "go") = true := by simp only [PyData.canLay0]; decide +kernel
theorem Fl.dd (d : Dd) : Fl 1 (encD d) := by cases d with
  | none => exact .tup (Fl.cons (.str lay_come) Fl.nil)
  | some s => exact .tup (Fl.two (.str lay_go) (.int s))
theorem eqv_d (a b : Dd) : PyData.eqv (encD a) (encD b) = decide (a = b) := by
  cases a <;> cases b
  · simp [encD, PyData.eqv, PyData.eqvAll]
  · simp [encD, PyData.eqv, PyData.eqvAll]
  · simp [encD, PyData.eqv, PyData.eqvAll]
  · simp [encD, PyData.eqv, PyData.eqvAll]
    rfl
theorem noL_d (d : Dd) : noL (encD d) = true := by cases d <;> simp [encD, noL, noLs]
theorem isNon_t (o : Option (List Int)) : isNon (encT o) = o.isNone := by cases o <;> rfl
theorem enc_come : PyData.tuple [.str "come"] = encD none := rfl
section
variable {P : Program} {w : World} {K : PySem.W.Frag} {mg : Str → Option Value} {base : Heap}
def spAfter : FS := fun rs k => ∃ (n : Int) (ss : List Int) (d : Dd), rs = [.d (.int n), .d (tupI ss), .d (encD d)] ∧ 1 ≤ n ∧ n ≤ 60 ∧ Rise n ss ∧ (∀ s, d = some s → s ∈ ss) ∧ k (.d (encT (afterF n ss d)))
theorem sc_law_from : FnScope ["thing", "least", "top"] ["thing", "least", "top"] (defScope s_law_from) := ⟨rfl, rfl, rfl, by decide +kernel, rfl, by decide +kernel, by decide +kernel⟩
def spFrom : FS := fun rs k => ∃ m lo hi : Int, rs = [.d (.int m), .d (.int lo), .d (.int hi)] ∧ lo ≤ m ∧ m ≤ hi ∧ k (.d (.bool true))
theorem has_from (T : Bt mg) (d : Df K mg "_law_from" s_law_from ["thing", "least", "top"]) : Has P w K mg base 1 "_law_from" ["thing", "least", "top"] spFrom := by
  refine has_of d sc_law_from (fun rs k ⟨_, _, _, e, _⟩ => by rw [e]; rfl) fun f cdv A outer s H E hr B rs k ⟨m, lo, hi, e, h0, h1, q⟩ => ?_
  subst e
  refine rs_one <| rs_ret <| ee_and <| ee_isInt T.isinstance T.int <| ev_var 0 rfl <| ee_and <| ee_not <| ee_isBool T.isinstance T.bool <| ev_var 0 rfl <| ee_and <| ee_le <| ee_var 1 rfl <| ee_var 0 rfl <| ifT (decide_eq_true h0) <| ee_one <| ee_le <| ee_var 0 rfl <| ee_var 2 rfl ?_
  show k (.d (.bool (decide (m ≤ hi))))
  rw [decide_eq_true h1]
  exact q
end
end Sit
set_option pp.maxSteps 1500
namespace Sit
open PySem PySem.Spec L2 Ab
open PyProof.Rows (envOfC)
/-! ### any thing as a deed -/
def afterD (n : Int) (ss : List Int) : PyData → Option (List Int)
  | .tuple [.str s] => if s = "come" then afterF n ss none else none
  | .tuple [.str s, b] => if s = "go" ∧ within b 0 (n - 1) = true then (match b with
    | .int m => if m ∈ ss then afterF n ss (some m) else none
    | _ => none) else none
  | _ => none
theorem afterD_nt {n : Int} {ss : List Int} {d : PyData} (h : isTup d = false) : afterD n ss d = none := by
  cases d <;> first | rfl | (cases h; done)
theorem afterD_0 {n : Int} {ss : List Int} : afterD n ss (.tuple []) = none := rfl
theorem afterD_3 {n : Int} {ss : List Int} {a b c : PyData} {r : List PyData} : afterD n ss (.tuple (a :: b :: c :: r)) = none := by cases a <;> rfl
theorem afterD_ns1 {n : Int} {ss : List Int} {a : PyData} (h : isStr a = false) : afterD n ss (.tuple [a]) = none := by
  cases a <;> first | rfl | (cases h; done)
theorem afterD_ns2 {n : Int} {ss : List Int} {a b : PyData} (h : isStr a = false) : afterD n ss (.tuple [a, b]) = none := by
  cases a <;> first | rfl | (cases h; done)
theorem isStr_of {a : PyData} (h : isStr a = true) : ∃ s, a = .str s := by
  cases a <;> first | exact ⟨_, rfl⟩ | (cases h; done)
theorem within_int {b : PyData} {lo hi : Int} (h : within b lo hi = true) : ∃ m, b = .int m ∧ lo ≤ m ∧ m ≤ hi := by
  cases b with
  | int m =>
    have h : (decide (lo ≤ m) && decide (m ≤ hi)) = true := h
    rw [Bool.and_eq_true] at h
    exact ⟨m, rfl, of_decide_eq_true h.1, of_decide_eq_true h.2⟩
  | _ => cases h
theorem afterD_rise {n : Int} {ss t : List Int} (hn : 0 < n) (h : Rise n ss) {d : PyData} (e : afterD n ss d = some t) : Rise n t := by
  unfold afterD at e
  split at e
  · split at e
    · exact after_rise hn h e
    · cases e
  · split at e
    · split at e
      · split at e
        · exact after_rise hn h e
        · cases e
      · cases e
    · cases e
  · cases e
theorem fl_child {n : Nat} {ds : List PyData} (h : PyData.canLayAll0 ds = true) : ∀ d ∈ ds, PyData.canLay0 d = true := by
  induction ds with
  | nil => intro d hd; cases hd
  | cons a r ih =>
    rw [PyData.canLayAll0, Bool.and_eq_true] at h
    intro d hd
    rcases List.mem_cons.mp hd with q | q
    · rw [q]; exact h.1
    · exact ih h.2 d q
theorem fl_tupc {n : Nat} {ds : List PyData} (h : Fl n (.tuple ds)) {d : PyData} (hd : d ∈ ds) : PyData.canLay0 d = true := fl_child (n := n) (by have := h.c; rwa [PyData.canLay0] at this) d hd
theorem eqv_nt (d : PyData) (h : isTup d = false) (ds : List PyData) : PyData.eqv d (.tuple ds) = false := by
  cases d <;> first | (simp only [PyData.eqv]; done) | (cases h; done)
theorem eqv_come1 (a : PyData) : PyData.eqv (.tuple [a]) (.tuple [.str "come"]) = PyData.eqv a (.str "come") := by
  simp only [PyData.eqv, PyData.eqvAll, Bool.and_true]
theorem eqv_come0 : PyData.eqv (.tuple []) (.tuple [.str "come"]) = false := by simp only [PyData.eqv, PyData.eqvAll]
theorem eqv_come2 (a b : PyData) (r : List PyData) : PyData.eqv (.tuple (a :: b :: r)) (.tuple [.str "come"]) = false := by
  simp only [PyData.eqv, PyData.eqvAll, Bool.and_false]
theorem eqv_ns {a : PyData} (h : isStr a = false) : PyData.eqv a (.str "come") = false := by
  cases a <;> first | (simp only [PyData.eqv]; done) | (cases h; done)
section
variable {P : Program} {w : World} {K : PySem.W.Frag} {mg : Str → Option Value} {base : Heap}
def spAfterD : FS := fun rs k => ∃ (n : Int) (ss : List Int) (d : PyData), rs = [.d (.int n), .d (tupI ss), .d d] ∧ 1 ≤ n ∧ n ≤ 60 ∧ Rise n ss ∧ Fl 60 d ∧ k (.d (encT (afterD n ss d)))
def spFromD : FS := fun rs k => ∃ (d : PyData) (lo hi : Int), rs = [.d d, .d (.int lo), .d (.int hi)] ∧ k (.d (.bool (within d lo hi)))
theorem has_fromD (T : Bt mg) (d : Df K mg "_law_from" s_law_from ["thing", "least", "top"]) : Has P w K mg base 1 "_law_from" ["thing", "least", "top"] spFromD := by
  refine has_of d sc_law_from (fun rs k ⟨_, _, _, e, _⟩ => by rw [e]; rfl) fun f cdv A outer s H E hr B rs k ⟨d, lo, hi, e, q⟩ => ?_
  subst e
  refine rs_one <| rs_ret <| ee_and <| ee_isInt T.isinstance T.int <| ev_var 0 rfl ?_
  cases d with
  | int i =>
    have q' : k (.d (.bool (decide (lo ≤ i) && decide (i ≤ hi)))) := q
    refine ee_and <| ee_not <| ee_isBool T.isinstance T.bool <| ev_var 0 rfl <| ee_and <| ee_le <| ee_var 1 rfl <| ee_var 0 rfl <| ifD (fun h => ?_) (fun h => ?_)
    · rw [decide_eq_true h, Bool.true_and] at q'
      exact ee_one <| ee_le <| ee_var 0 rfl <| ee_var 2 rfl q'
    · rw [decide_eq_false h, Bool.false_and] at q'
      exact q'
  | bool b => exact ee_and (ee_not (ee_isBool T.isinstance T.bool (ev_var 0 rfl q)))
  | _ => exact q
end
end Sit
set_option pp.maxSteps 1500
namespace Sit
open PySem PySem.Spec PyProof.Rows L2 Ab
/-! ### things in a row as deeds -/
def walkD (n : Int) : List Int → Nat → List PyData → Sum Nat (List Int)
  | ss, _, [] => .inr ss
  | ss, i, d :: r => match afterD n ss d with
    | none => .inl i
    | some t => walkD n t (i + 1) r
def dueD (n : Int) (ss : List Int) (ds : List PyData) : Sum Nat (List Int) := match walkD n ss 0 (ds.take 40) with
  | .inl i => .inl i
  | .inr t => if 40 < ds.length then .inl 40 else .inr t
def encDue : Sum Nat (List Int) → PyData
  | .inl i => .int (i : Int)
  | .inr t => tupI t
theorem within_11 {n : Int} (h0 : 1 ≤ n) (h1 : n ≤ 10 ^ 18) : within (.int n) 1 (10 ^ 18) = true := by
  show (decide (1 ≤ n) && decide (n ≤ 10 ^ 18)) = true
  rw [decide_eq_true h0, decide_eq_true h1]; rfl
theorem due_inl {n : Int} {ss : List Int} {ds : List PyData} {i : Nat} (h : walkD n ss 0 (ds.take 40) = .inl i) : dueD n ss ds = .inl i := by unfold dueD; rw [h]
theorem due_inr {n : Int} {ss t : List Int} {ds : List PyData} (h : walkD n ss 0 (ds.take 40) = .inr t) : dueD n ss ds = if 40 < ds.length then .inl 40 else .inr t := by unfold dueD; rw [h]
theorem cut40 (ds : List PyData) : cutD ds none (some 40) = ds.take 40 := cutD_to ds 40
section
variable {P : Program} {w : World} {K : PySem.W.Frag} {mg : Str → Option Value} {base : Heap}
end
end Sit
set_option pp.maxSteps 1500
namespace Ab
open PySem PySem.Spec L2
/-- a thing of bounded depth whose lists and tuples are short -/
def gd (L : Nat) : Nat → PyData → Bool
  | _, .none => true
  | _, .bool _ => true
  | _, .int _ => true
  | _, .str x => PyData.canLay0 (.str x)
  | n + 1, .tuple ds => decide (ds.length ≤ L) && ds.all (gd L n)
  | n + 1, .list ds => decide (ds.length ≤ L) && ds.all (gd L n)
  | _, _ => false
theorem gd_tup {L n : Nat} {ds : List PyData} : gd L (n + 1) (.tuple ds) = true ↔ ds.length ≤ L ∧ ∀ d ∈ ds, gd L n d = true := by
  show (decide (ds.length ≤ L) && ds.all (gd L n)) = true ↔ _
  rw [Bool.and_eq_true, List.all_eq_true, decide_eq_true_iff]
theorem gd_lst {L n : Nat} {ds : List PyData} : gd L (n + 1) (.list ds) = true ↔ ds.length ≤ L ∧ ∀ d ∈ ds, gd L n d = true := by
  show (decide (ds.length ≤ L) && ds.all (gd L n)) = true ↔ _
  rw [Bool.and_eq_true, List.all_eq_true, decide_eq_true_iff]
theorem gd_fl {L : Nat} : ∀ {n : Nat} {d : PyData}, gd L n d = true → Fl n d
  | _, .none, _ => .none
  | _, .bool _, _ => .bool _
  | _, .int _, _ => .int _
  | n, .str x, h => by
    cases n <;> exact .str h
  | 0, .tuple _, h => by cases h
  | 0, .list _, h => by cases h
  | n + 1, .tuple ds, h => .tup fun d hd => gd_fl ((gd_tup.mp h).2 d hd)
  | n + 1, .list ds, h => .lst fun d hd => gd_fl ((gd_lst.mp h).2 d hd)
  | n, .dict _, h => by cases n <;> cases h
theorem gd_mono {L L' : Nat} (hL : L ≤ L') : ∀ {n n' : Nat} {d : PyData}, n ≤ n' → gd L n d = true → gd L' n' d = true
  | n, n', .none, _, _ => by cases n' <;> rfl
  | n, n', .bool _, _, _ => by cases n' <;> rfl
  | n, n', .int _, _, _ => by cases n' <;> rfl
  | n, n', .str x, _, h => by
    cases n <;> cases n' <;> exact h
  | 0, _, .tuple _, _, h => by cases h
  | 0, _, .list _, _, h => by cases h
  | n + 1, 0, .tuple ds, hn, h => by omega
  | n + 1, 0, .list ds, hn, h => by omega
  | n + 1, n' + 1, .tuple ds, hn, h => gd_tup.mpr ⟨Nat.le_trans (gd_tup.mp h).1 hL, fun d hd => gd_mono hL (Nat.le_of_succ_le_succ hn) ((gd_tup.mp h).2 d hd)⟩
  | n + 1, n' + 1, .list ds, hn, h => gd_lst.mpr ⟨Nat.le_trans (gd_lst.mp h).1 hL, fun d hd => gd_mono hL (Nat.le_of_succ_le_succ hn) ((gd_lst.mp h).2 d hd)⟩
  | n, _, .dict _, _, h => by cases n <;> cases h
section
variable {X : Cx} {B : Bg} {Γ : List Sl} {k : Sl → Prop} {p1 p2 pos : Pos}
/-- len(x), list(x) of a tuple or a list that is data -/
theorem ee_len2 (i : Nat) {x : Str} {thing : PyData} {ds : List PyData} (hm : X.mg "len" = none) (ht : thing = .tuple ds ∨ thing = .list ds) (hg : Γ[i]? = some (.d thing)) (q : k (.d (.int (ds.length : Int)))) (hgl : Gl X "len" := by rfl) (hN : X.N[i]? = some x := by rfl) (hv : Vis X.env.scope x := by first | exact Or.inl rfl | exact Or.inr (Or.inl rfl) | exact Or.inr (Or.inr rfl))
    (hd : (x == ("__debug__" : Str)) = false := by decide) (hcd : (x == ("__classdict__" : Str)) = false := by decide) (he : starEach [.Name x p2] X.env = (false, eval (.Name x p2) X.env) :: starEach [] X.env := by rfl) (hpl : (backTo pos (starEach [] X.env)).any (·.1) = false := by rfl) : EvE X B (.Call (.Name "len" p1) [.Name x p2] [] pos) Γ k := by
  rcases ht with rfl | rfl
  · exact ee_lenT hm (ee_var i hg (tup_d q) rfl hN hv hd hcd) hgl he hpl
  · exact ee_lenL hm (EvL.of (ee_var i hg (lst_d q) rfl hN hv hd hcd)) hgl he hpl
theorem ee_list2 (i : Nat) {x : Str} {thing : PyData} {ds : List PyData} (hm : X.mg "list" = none) (ht : thing = .tuple ds ∨ thing = .list ds) (hg : Γ[i]? = some (.d thing)) (q : k (.ol ds)) (hgl : Gl X "list" := by rfl) (hN : X.N[i]? = some x := by rfl) (hv : Vis X.env.scope x := by first | exact Or.inl rfl | exact Or.inr (Or.inl rfl) | exact Or.inr (Or.inr rfl))
    (hd : (x == ("__debug__" : Str)) = false := by decide) (hcd : (x == ("__classdict__" : Str)) = false := by decide) (he : starEach [.Name x p2] X.env = (false, eval (.Name x p2) X.env) :: starEach [] X.env := by rfl) (hpl : (backTo pos (starEach [] X.env)).any (·.1) = false := by rfl) : EvE X B (.Call (.Name "list" p1) [.Name x p2] [] pos) Γ k := by
  rcases ht with rfl | rfl
  · exact ee_listT hm (ee_var i hg (tup_d q) rfl hN hv hd hcd) hgl he hpl
  · exact ee_listL hm (EvL.of (ee_var i hg (lst_d q) rfl hN hv hd hcd)) hgl he hpl
end
theorem cut_to (ds : List PyData) {i : Int} (h : 0 ≤ i) : cutD ds none (some i) = ds.take i.toNat := by
  have := cutD_to ds i.toNat
  rwa [Int.toNat_of_nonneg h] at this
theorem cut_from (ds : List PyData) {i : Int} (h : 0 ≤ i) : cutD ds (some i) none = ds.drop i.toNat := by
  have := cutD_from ds i.toNat
  rwa [Int.toNat_of_nonneg h] at this
end Ab
namespace Sit
open PySem PySem.Spec PyProof.Rows L2 Ab
section
variable {P : Program} {w : World} {K : PySem.W.Frag} {mg : Str → Option Value} {base : Heap}
def oddL : List PyData := [.none, .bool true, .bool false, .int (-1), .int 0, .int 1, .int 9, .int 60, .int 300, .int (10 ^ (18 : Int).toNat), .int (10 ^ (18 : Int).toNat + 1), .int (10 ^ (30 : Int).toNat), .str "", .str "come", .str "go"] ++
  [.tuple [], .list [], .tuple [.int 0], .list [.int 0], .tuple [.int 0, .int 1], .tuple [.int 1, .int 0], .tuple [.int 0, .int 0]] ++
  [.tuple [.bool true], .tuple [.str "come"], .tuple [.str "go", .int 0], .list [.tuple [.str "come"]], .tuple [.str "go"], .tuple [.none]]
theorem odd_gd : ∀ d ∈ oddL, gd 2 2 d = true := List.all_eq_true.mp (by decide +kernel)
theorem sc_odd : FnScope ["picks", "odd"] ["picks"] (defScope s_law_odd) := ⟨rfl, rfl, rfl, by decide +kernel, rfl, by decide +kernel, by decide +kernel⟩
def Picks (ps : List Int) : Prop := ps.length ≤ 1000 ∧ ∀ p ∈ ps, 0 ≤ p ∧ p < 1000
theorem Picks.drop {ps : List Int} (h : Picks ps) (n : Nat) : Picks (ps.drop n) := ⟨by rw [List.length_drop]; have := h.1; omega, fun p hp => h.2 p (List.mem_of_mem_drop hp)⟩
def spOdd : FS := fun rs k => ∃ ps : List Int, rs = [.d (.list (ps.map .int))] ∧ Picks ps ∧ 2 ≤ ps.length ∧ ∀ d, gd 2 2 d = true → k (.d d)
theorem picks_at {ps : List Int} (h : Picks ps) {j : Nat} (hj : j < ps.length) : ∃ p : Int, atI (ps.map PyData.int) (j : Int) = some (.int p) ∧ 0 ≤ p ∧ p < 1000 := by
  refine ⟨ps[j], atI_nat (by rw [List.getElem?_map, List.getElem?_eq_getElem hj]; rfl), h.2 _ (List.getElem_mem hj)⟩
theorem has_odd (T : Bt mg) (d : Df K mg "_law_odd" s_law_odd ["picks"]) : Has P w K mg base 1 "_law_odd" ["picks"] spOdd := by
  refine has_of d sc_odd (fun rs k ⟨_, e, _⟩ => by rw [e]; rfl) fun f cdv A outer s H E hr B rs k ⟨ps, e, hp, hl, q⟩ => ?_
  subst e
  have nd := sc_odd.nd
  refine rs_cons <| rs_asg 1 nd <| ee_lst <| ed_cons <| ee_non <| ed_cons <| ee_bl <| ed_cons <| ee_bl <| ed_cons <| ee_neg <| ee_int <| ed_cons <| ee_int <| ed_cons <| ee_int <| ed_cons <| ee_int <| ed_cons <| ee_int <| ed_cons <| ee_int <| ed_cons <| ee_pow <| ee_int <| ee_int ⟨⟨by decide, by decide, by decide⟩, ed_cons <| ee_add <| ee_pow <| ee_int <| ee_int ⟨⟨by decide, by decide, by decide⟩, ee_int <| ed_cons <| ee_pow <| ee_int <| ee_int ⟨⟨by decide, by decide, by decide⟩, ed_cons <| ee_str <| ed_cons <| ee_str <| ed_cons <| ee_str <| ed_nil ?_⟩⟩⟩
  refine rs_cons <| rs_asg 1 nd <| ee_catLL <| el_own 1 rfl <| EvL.of <| ee_lst <| ed_cons <| ee_tup <| ed_nil <| ed_cons <| ee_lst <| ed_nil <| ed_cons <| ee_tup <| ed_cons <| ee_int <| ed_nil <| ed_cons <| ee_lst <| ed_cons <| ee_int <| ed_nil <| ed_cons <| ee_tup <| ed_cons <| ee_int <| ed_cons <| ee_int <| ed_nil <| ed_cons <| ee_tup <| ed_cons <| ee_int <| ed_cons <| ee_int <| ed_nil <| ed_cons <| ee_tup <| ed_cons <| ee_int <| ed_cons <| ee_int <| ed_nil <| ed_nil <| lst_ol ⟨by decide, ?_⟩
  refine rs_cons <| rs_asg 1 nd <| ee_catLL <| el_own 1 rfl <| EvL.of <| ee_lst <| ed_cons <| ee_tup <| ed_cons <| ee_bl <| ed_nil <| ed_cons <| ee_tup <| ed_cons <| ee_str <| ed_nil <| ed_cons <| ee_tup <| ed_cons <| ee_str <| ed_cons <| ee_int <| ed_nil <| ed_cons <| ee_lst <| ed_cons <| ee_tup <| ed_cons <| ee_str <| ed_nil <| ed_nil <| ed_cons <| ee_tup <| ed_cons <| ee_str <| ed_nil <| ed_cons <| ee_tup <| ed_cons <| ee_non <| ed_nil <| ed_nil <| lst_ol ⟨by decide, ?_⟩
  show RunSs _ _ _ [.d (.list (ps.map .int)), .ol oddL] _
  obtain ⟨a, ha, a0, a1⟩ := picks_at hp (j := 0) (by omega)
  obtain ⟨b, hb, b0, b1⟩ := picks_at hp (j := 1) (by omega)
  refine rs_one <| rs_ret <| ee_ixL <| el_own 1 rfl <| ee_mod <| ee_add <| ee_ixL <| el_var 0 rfl <| ee_int ⟨_, ha, ee_mul <| ee_int <| ee_ixL <| el_var 0 rfl <| ee_int ⟨_, hb, .inl ⟨by decide, by decide⟩, ee_lenL T.len <| el_own 1 rfl ⟨by decide, ?_⟩⟩⟩
  have hlt : ((a + 7 * b) % ((oddL.length : Nat) : Int)).toNat < oddL.length := by
    have h1 := Int.emod_lt_of_pos (a + 7 * b) (show (0 : Int) < ((oddL.length : Nat) : Int) by decide)
    have h0 := Int.emod_nonneg (a + 7 * b) (show ((oddL.length : Nat) : Int) ≠ 0 by decide)
    omega
  refine ⟨oddL[((a + 7 * b) % ((oddL.length : Nat) : Int)).toNat], ?_, q _ (odd_gd _ (List.getElem_mem hlt))⟩
  have := atI_nat (xs := oddL) (j := ((a + 7 * b) % ((oddL.length : Nat) : Int)).toNat) (List.getElem?_eq_getElem hlt)
  rwa [Int.toNat_of_nonneg (Int.emod_nonneg _ (by decide))] at this
end
end Sit
set_option pp.maxSteps 1500
namespace Ab
open PySem PySem.Spec L2
section
variable {X : Cx} {B : Bg} {Γ : List Sl} {e : Expr} {p1 p2 pos : Pos} {f : List PyData → Prop}
/-- xs[:e], xs owned -/
theorem el_to (i n : Nat) {x : Str} {ds : List PyData} (hg : Γ[i]? = some (.ol ds)) (h : EvE X B e Γ fun r => r = .d (.int (n : Int))) (q : f (ds.take n)) (hN : X.N[i]? = some x := by rfl) (hv : Vis X.env.scope x := by first | exact Or.inl rfl | exact Or.inr (Or.inl rfl) | exact Or.inr (Or.inr rfl))
    (hd : (x == ("__debug__" : Str)) = false := by decide) (hcd : (x == ("__classdict__" : Str)) = false := by decide) : EvL X B (.Subscript (.Name x p1) (.Slice none (some e) none p2) pos) Γ f :=
  EvL.of (ee_slL (el_own i hg (eo_none (eo_some (ee_mono h fun r hr => by
    subst hr
    exact lst_ol (by rw [cutD_to]; exact q)))) hN hv hd hcd))
theorem el_from (i n : Nat) {x : Str} {ds : List PyData} (hg : Γ[i]? = some (.ol ds)) (h : EvE X B e Γ fun r => r = .d (.int (n : Int))) (q : f (ds.drop n)) (hN : X.N[i]? = some x := by rfl) (hv : Vis X.env.scope x := by first | exact Or.inl rfl | exact Or.inr (Or.inl rfl) | exact Or.inr (Or.inr rfl))
    (hd : (x == ("__debug__" : Str)) = false := by decide) (hcd : (x == ("__classdict__" : Str)) = false := by decide) : EvL X B (.Subscript (.Name x p1) (.Slice (some e) none none p2) pos) Γ f :=
  EvL.of (ee_slL (el_own i hg (eo_some (ee_mono h fun r hr => by
    subst hr
    exact eo_none (lst_ol (by rw [cutD_from]; exact q)))) hN hv hd hcd))
/-- the same of a list that is data -/
theorem el_toD (i n : Nat) {x : Str} {ds : List PyData} (hg : Γ[i]? = some (.d (.list ds))) (h : EvE X B e Γ fun r => r = .d (.int (n : Int))) (q : f (ds.take n)) (hN : X.N[i]? = some x := by rfl) (hv : Vis X.env.scope x := by first | exact Or.inl rfl | exact Or.inr (Or.inl rfl) | exact Or.inr (Or.inr rfl))
    (hd : (x == ("__debug__" : Str)) = false := by decide) (hcd : (x == ("__classdict__" : Str)) = false := by decide) : EvL X B (.Subscript (.Name x p1) (.Slice none (some e) none p2) pos) Γ f :=
  EvL.of (ee_slL (el_var i hg (eo_none (eo_some (ee_mono h fun r hr => by
    subst hr
    exact lst_ol (by rw [cutD_to]; exact q)))) hN hv hd hcd))
theorem el_fromD (i n : Nat) {x : Str} {ds : List PyData} (hg : Γ[i]? = some (.d (.list ds))) (h : EvE X B e Γ fun r => r = .d (.int (n : Int))) (q : f (ds.drop n)) (hN : X.N[i]? = some x := by rfl) (hv : Vis X.env.scope x := by first | exact Or.inl rfl | exact Or.inr (Or.inl rfl) | exact Or.inr (Or.inr rfl))
    (hd : (x == ("__debug__" : Str)) = false := by decide) (hcd : (x == ("__classdict__" : Str)) = false := by decide) : EvL X B (.Subscript (.Name x p1) (.Slice (some e) none none p2) pos) Γ f :=
  EvL.of (ee_slL (el_var i hg (eo_some (ee_mono h fun r hr => by
    subst hr
    exact eo_none (lst_ol (by rw [cutD_from]; exact q)))) hN hv hd hcd))
end
end Ab
namespace Sit
open PySem PySem.Spec PyProof.Rows L2 Ab
theorem mem_of_cut {l : List PyData} {p : PyData → Prop} (h : ∀ d ∈ l, p d) (n : Nat) : (∀ d ∈ l.take n, p d) ∧ ∀ d ∈ l.drop n, p d := ⟨fun d hd => h d (List.mem_of_mem_take hd), fun d hd => h d (List.mem_of_mem_drop hd)⟩
theorem all_app {l m : List PyData} {p : PyData → Prop} (h : ∀ d ∈ l, p d) (h2 : ∀ d ∈ m, p d) : ∀ d ∈ l ++ m, p d := fun d hd => (List.mem_append.mp hd).elim (h d) (h2 d)
theorem all_one {a : PyData} {p : PyData → Prop} (h : p a) : ∀ d ∈ [a], p d := fun d hd => by rw [List.mem_singleton.mp hd]; exact h
section
variable {P : Program} {w : World} {K : PySem.W.Frag} {mg : Str → Option Value} {base : Heap}
abbrev nSpoilt : List Str := ["thing", "picks", "parts", "at", "turn_by"]
theorem sc_spoilt : FnScope nSpoilt ["thing", "picks"] (defScope s_law_spoilt) := ⟨rfl, rfl, rfl, by decide +kernel, rfl, by decide +kernel, by decide +kernel⟩
def spSpoiltL (L m : Nat) : FS := fun rs k => ∃ (thing : PyData) (ps : List Int), rs = [.d thing, .d (.list (ps.map .int))] ∧ gd L m thing = true ∧ Picks ps ∧ 3 + 4 * m ≤ ps.length ∧ ∀ r, gd (L + 1) (m + 3) r = true → k (.d r)
theorem drop_map (ps : List Int) (n : Nat) : (ps.map PyData.int).drop n = (ps.drop n).map .int := (List.map_drop ..).symm
theorem has_spoiltL {L : Nat} (hL2 : 2 ≤ L) (hLm : L ≤ 100) (T : Bt mg) (d : Df K mg "_law_spoilt" s_law_spoilt ["thing", "picks"]) (hO : Has P w K mg base 1 "_law_odd" ["picks"] spOdd) : ∀ m : Nat, Has P w K mg base (m + 2) "_law_spoilt" ["thing", "picks"] (spSpoiltL L m) := by
  intro m
  induction m with
  | zero =>
    refine has_of d sc_spoilt (fun rs k ⟨_, _, e, _⟩ => by rw [e]; rfl) fun f cdv A outer s H E hr B rs k ⟨thing, ps, e, hg, hp, hl, q⟩ => ?_
    subst e
    have nd := sc_spoilt.nd
    have hn : isSeq thing = false := by cases thing <;> first | rfl | (cases hg; done)
    refine rs_cons <| rs_if <| et_of_w <| ew_or <| et_not <| et_val <| ee_isTL T.isinstance T.tuple T.list <| ev_var 0 rfl <| ifT (by rw [hn]; rfl) ?_
    refine rs_one <| rs_ret <| ee_call hO hr <| ea_cons <| ee_slL <| el_var 1 rfl <| eo_some <| ee_int <| eo_none <| ea_nil ⟨ps.drop 1, ?_, hp.drop 1, by rw [List.length_drop]; omega, fun r hr => q r (gd_mono (by omega) (by omega) hr)⟩
    rw [cut_from _ (by decide), show (1 : Int).toNat = 1 from rfl, drop_map]
  | succ m ih =>
    refine has_of d sc_spoilt (fun rs k ⟨_, _, e, _⟩ => by rw [e]; rfl) fun f cdv A outer s H E hr B rs k ⟨thing, ps, e, hg, hp, hl, q⟩ => ?_
    subst e
    have nd := sc_spoilt.nd
    have odd1 : RunSs (cxOf CX0 P w K mg base nSpoilt "_law_spoilt" (defScope s_law_spoilt) f cdv A outer s H E).nox B (match (defBody s_law_spoilt).getD 0 (.Pass ⟨0, 0, 0, 0⟩) with | .If _ a _ _ => a | _ => []) (startS nSpoilt [.d thing, .d (.list (ps.map .int))]) { nx := fun Γ' => False, rt := k } := by
      refine rs_one <| rs_ret <| ee_call hO (k0 := m + 2) hr (hn := by omega) <| ea_cons <| ee_slL <| el_var 1 rfl <| eo_some <| ee_int <| eo_none <| ea_nil ⟨ps.drop 1, ?_, hp.drop 1, by rw [List.length_drop]; omega, fun r hr => q r (gd_mono (by omega) (by omega) hr)⟩
      rw [cut_from _ (by decide), show (1 : Int).toNat = 1 from rfl, drop_map]
    have odd2 : ∀ D : Dn, D.rt = k → RunSs (cxOf CX0 P w K mg base nSpoilt "_law_spoilt" (defScope s_law_spoilt) f cdv A outer s H E).nox B (match (defBody s_law_spoilt).getD 0 (.Pass ⟨0, 0, 0, 0⟩) with | .If _ a _ _ => a | _ => []) (startS nSpoilt [.d thing, .d (.list (ps.map .int))]) D := fun D hD =>
      rss_mono odd1 (fun _ h => h.elim) (fun r h => by rw [hD]; exact h) (fun _ h => h.elim) (fun _ h => h.elim) (fun _ _ _ => trivial)
    refine rs_cons <| rs_if <| et_of_w <| ew_or <| et_not <| et_val <| ee_isTL T.isinstance T.tuple T.list <| ev_var 0 rfl ?_
    by_cases hns : isSeq thing = false
    · exact ifT (by rw [hns]; rfl) (odd2 _ rfl)
    rw [Bool.not_eq_false] at hns
    obtain ⟨ds, ht⟩ : ∃ ds, thing = .tuple ds ∨ thing = .list ds := by
      cases thing <;> first | exact ⟨_, .inl rfl⟩ | exact ⟨_, .inr rfl⟩ | (cases hns; done)
    have hds : ds.length ≤ L ∧ ∀ d ∈ ds, gd L m d = true := by
      rcases ht with rfl | rfl
      · exact gd_tup.mp hg
      · exact gd_lst.mp hg
    obtain ⟨hd2, hdd⟩ := hds
    obtain ⟨pa, ha, a0, a1⟩ := picks_at hp (j := 0) (by omega)
    obtain ⟨pb, hb, b0, b1⟩ := picks_at hp (j := 1) (by omega)
    obtain ⟨pc, hc, c0, c1⟩ := picks_at hp (j := 2) (by omega)
    refine ifF (by rw [hns]; rfl) <| ew_or <| et_eqI <| ee_len2 0 T.len ht rfl <| ee_int <| ifD (fun _ => odd2 _ rfl) (fun h0 => ?_)
    refine ew_or <| et_lt <| ee_lenL T.len <| el_var 1 rfl <| ee_int <| ifD (fun _ => odd2 _ rfl) (fun h9 => ?_)
    rw [List.length_map] at h9
    refine ew_or1 <| et_eqI <| ee_mod <| ee_ixL <| el_var 1 rfl <| ee_int ⟨_, ha, ee_int ⟨by decide, ee_int <| ifD (fun _ => odd2 _ rfl) (fun _ => rs_nil ?_)⟩⟩
    have hpos : 0 < ds.length := by omega
    refine rs_cons <| rs_asg 2 nd <| ee_list2 0 T.list ht rfl ?_
    refine rs_cons <| rs_asg 3 nd <| ee_mod <| ee_ixL <| el_var 1 rfl <| ee_int ⟨_, hb, ee_lenL T.len <| el_own 2 rfl ⟨by omega, ?_⟩⟩
    have x0 := Int.emod_nonneg pb (show ((ds.length : Nat) : Int) ≠ 0 by omega)
    have x1 := Int.emod_lt_of_pos pb (show (0 : Int) < ((ds.length : Nat) : Int) by omega)
    generalize pb % ((ds.length : Nat) : Int) = x at x0 x1
    obtain ⟨at_, rfl⟩ := Int.eq_ofNat_of_zero_le x0
    have hat : at_ < ds.length := by omega
    refine rs_cons <| rs_asg 4 nd <| ee_mod <| ee_ixL <| el_var 1 rfl <| ee_int ⟨_, hc, ee_int ⟨by decide, ?_⟩⟩
    generalize pc % 12 = t
    show RunSs _ _ _ [.d thing, .d (.list (ps.map .int)), .ol ds, .d (.int (at_ : Int)), .d (.int t)] _
    have up : ∀ d ∈ ds, gd (L + 1) (m + 3) d = true := fun d hd => gd_mono (by omega) (by omega) (hdd d hd)
    refine rs_cons <| rs_mono (D' := { nx := fun Γ' => ∃ pz : List PyData, Γ' = [.d thing, .d (.list (ps.map .int)), .ol pz, .d (.int (at_ : Int)), .d (.int t)] ∧ pz.length ≤ L + 1 ∧ ∀ d ∈ pz, gd (L + 1) (m + 3) d = true, rt := fun _ => False }) ?_ (fun Γ' ⟨pz, e, hz, hzd⟩ => ?_) (fun _ h => h.elim) (fun _ h => h.elim) (fun _ h => h.elim) (fun _ _ _ => trivial)
    · refine rs_if <| et_eqI <| ee_var 4 rfl <| ee_int <| ifD (fun _ => ?_) (fun _ => ?_)
      · refine rs_one <| rs_asg 2 nd <| ee_catLL <| el_to 2 at_ rfl (ee_var 3 rfl rfl) <| el_from 2 (at_ + 1) rfl (ee_add <| ee_var 3 rfl <| ee_int rfl) <| ?_
        exact ⟨by rw [List.length_take, List.length_drop]; omega, _, rfl, by rw [List.length_append, List.length_take, List.length_drop]; omega, all_app (mem_of_cut up _).1 (mem_of_cut up _).2⟩
      refine rs_one <| rs_if <| et_eqI <| ee_var 4 rfl <| ee_int <| ifD (fun _ => ?_) (fun _ => ?_)
      · refine rs_one <| rs_asg 2 nd <| ee_catLL <| el_to 2 (at_ + 1) rfl (ee_add <| ee_var 3 rfl <| ee_int rfl) <| el_from 2 at_ rfl (ee_var 3 rfl rfl) <| ?_
        exact ⟨by rw [List.length_take, List.length_drop]; omega, _, rfl, by rw [List.length_append, List.length_take, List.length_drop]; omega, all_app (mem_of_cut up _).1 (mem_of_cut up _).2⟩
      refine rs_one <| rs_if <| et_eqI <| ee_var 4 rfl <| ee_int <| ifD (fun _ => ?_) (fun _ => ?_)
      · refine rs_one <| rs_asg 2 nd <| ee_catLL <| el_from 2 at_ rfl (ee_var 3 rfl rfl) <| el_to 2 at_ rfl (ee_var 3 rfl rfl) <| ?_
        exact ⟨by rw [List.length_take, List.length_drop]; omega, _, rfl, by rw [List.length_append, List.length_take, List.length_drop]; omega, all_app (mem_of_cut up _).2 (mem_of_cut up _).1⟩
      refine rs_one <| rs_if <| et_eqI <| ee_var 4 rfl <| ee_int <| ifD (fun _ => ?_) (fun _ => ?_)
      · refine rs_one <| rs_asg 2 nd <| ee_catLL <| EvL.of <| ee_catLL <| el_to 2 at_ rfl (ee_var 3 rfl rfl) <| EvL.of <| ee_lst <| ed_cons <| ee_call hO (k0 := m + 2) hr (hn := by omega) <| ea_cons <| ee_slL <| el_var 1 rfl <| eo_some <| ee_int <| eo_none <| ea_nil ⟨ps.drop 3, ?_, hp.drop 3, by rw [List.length_drop]; omega, fun r hr => ed_nil <| lst_ol ⟨?_, lst_ol <| el_from 2 at_ rfl (ee_var 3 rfl rfl) <| ?_⟩⟩
        · rw [cut_from _ (by decide), show (3 : Int).toNat = 3 from rfl, drop_map]
        · rw [List.length_take]
          show min at_ ds.length + 1 ≤ 1000000
          omega
        · refine ⟨?_, _, rfl, ?_, all_app (all_app (mem_of_cut up _).1 (all_one (gd_mono (by omega) (by omega) hr))) (mem_of_cut up _).2⟩
          · rw [List.length_append, List.length_take, List.length_drop]; show min at_ ds.length + 1 + (ds.length - at_) ≤ 1000000; omega
          · rw [List.length_append, List.length_append, List.length_take, List.length_drop]; show min at_ ds.length + 1 + (ds.length - at_) ≤ L + 1; omega
      refine rs_one <| rs_if <| et_gt <| ee_var 4 rfl <| ee_int <| ifD (fun _ => ?_) (fun _ => rs_nil ⟨ds, rfl, by omega, up⟩)
      refine rs_one <| rs_ixset 2 3 rfl rfl hat <| ee_call ih (k0 := m + 2) hr (hn := Nat.le_refl _) <| ea_cons <| ee_ixL <| el_own 2 rfl <| ee_var 3 rfl ⟨ds[at_], atI_nat (List.getElem?_eq_getElem hat), ea_cons <| ee_slL <| el_var 1 rfl <| eo_some <| ee_int <| eo_none <| ea_nil ⟨ds[at_], ps.drop 4, ?_, hdd _ (List.getElem_mem hat), hp.drop 4, by rw [List.length_drop]; omega, fun r hr => ⟨_, rfl, by rw [List.length_set]; omega, fun d hd => ?_⟩⟩⟩
      · rw [cut_from _ (by decide), show (4 : Int).toNat = 4 from rfl, drop_map]
      · rcases List.mem_or_eq_of_mem_set hd with h | h
        · exact up d h
        · rw [h]; exact hr
    · subst e
      refine rs_cons <| rs_if <| et_eq (k0 := m + 2) hr <| EvV.of <| ee_isTup T.isinstance T.tuple <| ev_var 0 rfl <| EvV.of <| ee_eqI <| ee_var 4 rfl <| ee_int ⟨(Fl.bool _ (n := 0)).sh, (Fl.bool _ (n := 0)).sh, ifB (fun h => ?_) (fun h => ?_)⟩
      · exact rs_freeze 2 <| rs_one <| rs_ret <| ee_var 2 rfl (q (.list pz) (gd_lst.mpr ⟨hz, hzd⟩))
      · exact rs_nil <| rs_one <| rs_ret <| ee_tupleL T.tuple <| el_own 2 rfl (q (.tuple pz) (gd_tup.mpr ⟨hz, hzd⟩))
end
end Sit
set_option pp.maxSteps 1500
namespace Sit
open PySem PySem.Spec PyProof.Rows L2 Ab
/-- what are_sitters answers on a bench -/
def sitB (n : Int) (t : PyData) : Bool := areSeats n t && (match t with
  | .tuple ds => decide ((ds.length : Int) ≤ 8)
  | _ => true)
theorem pw_ext1 {α : Type} {r : α → α → Prop} (asy : ∀ a b, r a b → ¬ r b a) : ∀ {l m : List α}, l.Pairwise r → m.Pairwise r → (∀ x, x ∈ l ↔ x ∈ m) → l = m
  | [], [], _, _, _ => rfl
  | [], b :: m, _, _, h => by have := (h b).mpr List.mem_cons_self; cases this
  | a :: l, [], _, _, h => by have := (h a).mp List.mem_cons_self; cases this
  | a :: l, b :: m, h1, h2, h => by
    obtain ⟨a1, a2⟩ := List.pairwise_cons.mp h1
    obtain ⟨b1, b2⟩ := List.pairwise_cons.mp h2
    have e : a = b := by
      rcases List.mem_cons.mp ((h a).mp List.mem_cons_self) with e | e
      · exact e
      · rcases List.mem_cons.mp ((h b).mpr List.mem_cons_self) with e2 | e2
        · exact e2.symm
        · exact absurd (a1 b e2) (asy _ _ (b1 a e))
    subst e
    congr 1
    refine pw_ext1 asy a2 b2 fun x => ⟨fun hx => ?_, fun hx => ?_⟩
    · rcases List.mem_cons.mp ((h x).mp (List.mem_cons_of_mem _ hx)) with e | e
      · subst e; exact absurd (a1 x hx) (asy _ _ (a1 x hx))
      · exact e
    · rcases List.mem_cons.mp ((h x).mpr (List.mem_cons_of_mem _ hx)) with e | e
      · subst e; exact absurd (b1 x hx) (asy _ _ (b1 x hx))
      · exact e
theorem ext_lt {l m : List Int} (h1 : l.Pairwise (· < ·)) (h2 : m.Pairwise (· < ·)) (h : ∀ x, x ∈ l ↔ x ∈ m) : l = m   := pw_ext1 (fun a b h1 h2 => by omega) h1 h2 h
theorem rising_iff : ∀ {ns : List Int}, risingD (ns.map .int) = true → ns.Pairwise (· < ·)
  | [], _ => .nil
  | [a], _ => List.pairwise_singleton _ _
  | a :: b :: r, h => by
    have h' : (ltD (.int a) (.int b) && risingD ((b :: r).map .int)) = true := h
    rw [Bool.and_eq_true] at h'
    have h1 : a < b := of_decide_eq_true h'.1
    have ih := rising_iff h'.2
    refine List.pairwise_cons.mpr ⟨fun x hx => ?_, ih⟩
    rcases List.mem_cons.mp hx with e | hx
    · rw [e]; exact h1
    · have := (List.pairwise_cons.mp ih).1 x hx
      omega
theorem eqv_lstI (ns ms : List Int) : PyData.eqv (.list (ns.map .int)) (.list (ms.map .int)) = decide (ns = ms) := by
  rw [← eqv_tupI, PyData.eqv, PyData.eqv]
theorem rising_sort {ns ms : List Int} (h : ms.Pairwise (· < ·)) (hm : ∀ j, j ∈ ms ↔ j ∈ ns) : decide (ns = ms) = risingD (ns.map .int) := by
  cases hr : risingD (ns.map .int) with
  | true => exact decide_eq_true (ext_lt (rising_iff hr) h fun x => (hm x).symm)
  | false =>
    refine decide_eq_false fun e => ?_
    subst e
    rw [rising_of h] at hr
    cases hr
section
variable {P : Program} {w : World} {K : PySem.W.Frag} {mg : Str → Option Value} {base : Heap}
/-- need_bench, its refusal told -/
def spNeedN : FSX := fun rs k ke => ∃ d, rs = [.d d] ∧ (within d 1 (10 ^ 18) = true → k (.d .none)) ∧ (within d 1 (10 ^ 18) = false → ke (.bare "NoBench"))
theorem has_needN (XX : Exc01 K mg) (d : Df K mg "need_bench" s_need_bench ["bench"]) (h2 : Has P w K mg base 2 "is_bench" ["thing"] spIsBench) : HasN P w K mg base 3 "need_bench" ["bench"] spNeedN := by
  refine has_ofN d scNeedBench (fun rs k ke ⟨_, e, _⟩ => by rw [e]; rfl) fun f cdv A outer s H E hr tk po B rs k ke ⟨d, e, q1, q2⟩ => ?_
  subst e
  refine rs_one <| rs_if <| et_not <| et_val <| ee_call h2 hr <| ea_cons <| ee_var 0 rfl <| ea_nil ⟨_, rfl, ?_⟩
  cases hw : within d 1 (10 ^ 18) with
  | true => exact rs_nil (q1 hw)
  | false => exact rs_one <| rs_raise0 XX.nb tk rfl rfl (q2 hw)
theorem sc_are_sitters : FnScope ["bench", "thing"] ["bench", "thing"] (defScope s_are_sitters) := ⟨rfl, rfl, rfl, by decide +kernel, rfl, by decide +kernel, by decide +kernel⟩
def spSitN : FSX := fun rs k ke => ∃ (d t : PyData), rs = [.d d, .d t] ∧ (∀ ds, t = .tuple ds → ds.length ≤ 1000000) ∧ (∀ n, d = .int n → within d 1 (10 ^ 18) = true → k (.d (.bool (sitB n t)))) ∧ (within d 1 (10 ^ 18) = false → ke (.bare "NoBench"))
theorem has_sitN (T : Bt mg) (M : Most mg) (d : Df K mg "are_sitters" s_are_sitters ["bench", "thing"]) (h1 : HasN P w K mg base 3 "need_bench" ["bench"] spNeedN) (h2 : Has P w K mg base 2 "are_seats" ["bench", "thing"] spAreSeats) : HasN P w K mg base 4 "are_sitters" ["bench", "thing"] spSitN := by
  refine has_ofN d sc_are_sitters (fun rs k ke ⟨_, _, e, _⟩ => by rw [e]; rfl) fun f cdv A outer s H E hr tk po B rs k ke ⟨d, t, e, hl, q1, q2⟩ => ?_
  subst e
  refine rs_cons <| rs_callN h1 hr tk rfl <| ea_cons <| ee_var 0 rfl <| ea_nil ⟨d, rfl, fun hw => ?_, q2⟩
  obtain ⟨n, rfl, _, _⟩ := within_int hw
  have q := q1 n rfl hw
  refine rs_one <| rs_ret <| ee_and <| ee_call h2 hr <| ea_cons <| ee_var 0 rfl <| ea_cons <| ee_var 1 rfl <| ea_nil ⟨n, t, rfl, hl, ?_⟩
  unfold sitB at q
  cases ha : areSeats n t with
  | false => rw [ha] at q; exact q
  | true =>
    rw [ha, Bool.true_and] at q
    cases t with
    | tuple ds => exact ee_one <| ee_le <| ee_lenT T.len <| ee_var 1 rfl <| tup_d <| ee_gint M q
    | _ => cases ha
abbrev nLawSit : List Str := ["bench", "thing", "seat"]
theorem sc_law_sit : FnScope nLawSit ["bench", "thing"] (defScope s_law_are_sitters) := ⟨rfl, rfl, rfl, by decide +kernel, rfl, by decide +kernel, by decide +kernel⟩
def spLawSit : FS := fun rs k => ∃ (n : Int) (t : PyData), rs = [.d (.int n), .d t] ∧ (∀ ds, t = .tuple ds → ds.length ≤ 1000000) ∧ k (.d (.bool (sitB n t)))
theorem has_law_sit (T : Bt mg) (d : Df K mg "_law_are_sitters" s_law_are_sitters ["bench", "thing"]) (h1 : Has P w K mg base 1 "_law_from" ["thing", "least", "top"] spFromD) : Has P w K mg base 2 "_law_are_sitters" ["bench", "thing"] spLawSit := by
  refine has_of d sc_law_sit (fun rs k ⟨_, _, e, _⟩ => by rw [e]; rfl) fun f cdv A outer s H E hr B rs k ⟨n, t, e, hl, q⟩ => ?_
  subst e
  have nd := sc_law_sit.nd
  refine rs_cons <| rs_if <| et_of_w <| ew_or <| et_not <| et_val <| ee_isTup T.isinstance T.tuple <| ev_var 1 rfl ?_
  cases t with
  | tuple ds =>
    have hl := hl ds rfl
    refine ew_or1 <| et_gt <| ee_lenT T.len <| ee_var 1 rfl <| tup_d <| ee_int <| ifD (fun h8 => ?_) (fun h8 => rs_nil ?_)
    · have e : sitB n (.tuple ds) = false := by
        unfold sitB
        have : decide ((ds.length : Int) ≤ 8) = false := decide_eq_false (by omega)
        dsimp only
        rw [this, Bool.and_false]
      rw [e] at q
      exact rs_one <| rs_ret <| ee_bl q
    · have e8 : sitB n (.tuple ds) = areSeats n (.tuple ds) := by
        unfold sitB
        have : decide ((ds.length : Int) ≤ 8) = true := decide_eq_true (by omega)
        dsimp only
        rw [this, Bool.and_true]
      rw [e8] at q
      refine rs_one <| rs_ret <| ee_and <| ee_all T.all rfl <| EvL.of <| ee_lc [("seat", 2)] [2] rfl nd (blkOk_by (N := nLawSit) (sc := defScope s_law_are_sitters) (by decide +kernel)) (by decide) (ei_tup (ee_var 1 rfl ?_))
      refine ⟨fun i acc => acc = ((ds.take i).map fun d => within d 0 (n - 1)).map .bool, rfl, hl, fun i d acc hd ha s0 H0 C cl fp => ?_, fun acc ha => ?_⟩
      · refine at_name 2 nd fun s0 H0 C cl fp => ets_nil fun s0 H0 C cl fp => ?_
        refine ee_call h1 hr (ea_cons (ee_var 2 rfl (ea_cons (ee_int (ea_cons (ee_sub (ee_var 0 rfl (ee_int (ea_nil ⟨_, _, _, rfl, ?_⟩)))))))))
        show acc ++ [.bool (within d 0 (n - 1))] = _
        rw [ha, List.take_succ, hd]
        simp
      · have ha : acc = ((ds.take ds.length).map fun d => within d 0 (n - 1)).map .bool := ha
        rw [List.take_length] at ha
        refine ⟨_, ha, ?_⟩
        have e1 : (ds.map fun d => within d 0 (n - 1)).all id = ds.all fun d => within d 0 (n - 1) := by rw [List.all_map]; rfl
        rw [e1]
        have q' : k (.d (.bool (ds.all (fun d => within d 0 (n - 1)) && risingD ds))) := q
        cases hw : ds.all fun d => within d 0 (n - 1) with
        | false =>
          rw [hw, Bool.false_and] at q'
          exact q'
        | true =>
          rw [hw, Bool.true_and] at q'
          obtain ⟨ns, rfl, _⟩ := ints_of_within hw
          rw [List.length_map] at h8
          refine ee_one <| ee_eq hr <| EvV.of <| ee_listT T.list <| ee_var 1 rfl <| tup_d <| EvV.of <| ee_sortedSet T.sorted T.set rfl <| ee_var 1 rfl <| tup_d ⟨ns, rfl, by omega, fun ms hms hmm => ⟨?_, ?_, ?_⟩⟩
          · exact (Fl.lst (n := 0) (fun d hd => by obtain ⟨i, _, rfl⟩ := List.mem_map.mp hd; exact .int _)).sh
          · exact (Fl.lst (n := 0) (fun d hd => by obtain ⟨i, _, rfl⟩ := List.mem_map.mp hd; exact .int _)).sh
          · rw [eqv_lstI, rising_sort hms hmm]
            exact q'
  | _ => exact rs_one <| rs_ret <| ee_bl q
abbrev nRef : List Str := ["call", "one", "two", "three", "kin", "e", "words", "word", "there"]
theorem sc_ref : FnScope nRef ["call", "one", "two", "three"] (defScope s_law_refused) := ⟨rfl, rfl, rfl, by decide +kernel, rfl, by decide +kernel, by decide +kernel⟩
def kinB : List PyData := [.str "NoBench", .bool true]
/-- a call that refuses with NoBench -/
def spRefN (P : Program) (w : World) (K : PySem.W.Frag) (mg : Str → Option Value) (base : Heap) (j : Nat) : FS := fun rs k => ∃ (q : Str) (params : Arguments) (body : Expr) (scope : Scope) (pre : FSX) (a b c : PyData), rs = [.pp (LamP q params body scope), .d a, .d b, .d c] ∧
  CalleeN P w K mg base j q params body scope pre ∧ (∀ k', pre [.d a, .d b, .d c] k' fun e => e = .bare "NoBench") ∧ k (.ol kinB)
theorem has_refN {j : Nat} (hj : 1 ≤ j) (T : Bt mg) (XX : Exc01 K mg) (d : Df K mg "_law_refused" s_law_refused ["call", "one", "two", "three"]) : Has P w K mg base (j + 1) "_law_refused" ["call", "one", "two", "three"] (spRefN P w K mg base j) := by
  refine has_of d sc_ref (fun rs k ⟨_, _, _, _, _, _, _, _, e, _⟩ => by rw [e]; rfl) fun f cdv A outer s H E hr B rs k ⟨q, params, body, scope, pre, a, b, c, e, hC, hpre, qk⟩ => ?_
  subst e
  have nd := sc_ref.nd
  refine rs_cons <| rs_asg 4 nd <| ee_lst <| ed_nil ?_
  refine rs_cons <| rs_tryL (i := 5) (j := 0) (Wout := fun _ _ _ _ => False) (ke := fun e => e = .bare "NoBench") rfl rfl nd rfl rfl (fun u s' ⟨_, _, _, _, _, _, _, _, _, _, _, _, _, _, _, _, w⟩ => w.elim)
    (.cons ⟨rfl, by decide, .inl XX.gd⟩ sui_selfN (.cons ⟨rfl, by decide, .inl XX.gt⟩ sui_selfN (.cons ⟨rfl, by decide, .inl XX.gs⟩ sui_selfN .nil))) rfl hC hr (fun pn xe => ?_) (fun ex hx cls dx G0 H0 σ G H DH sk ek dk => ?_)
  · exact ea_cons <| ee_var 1 rfl <| ea_cons <| ee_var 2 rfl <| ea_cons <| ee_var 3 rfl <| ea_nil (hpre _)
  · subst hx
    have hcls : cls = .ref (gA K "NoBench") := by
      have := ek.1.symm.trans XX.nb.mgC
      exact Option.some.inj this
    subst hcls
    refine wMA_past XX.ed <| wMA_past XX.et <| wMA_hereN sk dk XX.es ek.2 fun ax oe pn hz hf => ?_
    have hot : L2H.HotC ((cxOf CX0 P w K mg base nRef "_law_refused" (defScope s_law_refused) f cdv A outer s H E).nox.suite ax ((ax, oe) :: pn)) := by
      obtain ⟨vs, hv⟩ := hf
      exact ⟨(ax, oe), ⟨rfl, vs, hv, hz.2.2 vs hv⟩, List.mem_cons_self⟩
    refine rs_cons <| rs_asg 6 nd <| ee_lst <| ed_cons <| ee_tup <| ed_cons <| ee_str <| ed_cons <| ee_exisN 5 (c := .ref (gA K "NoBench")) (cv := .ref (gA K "NoBench")) XX.nb.ec hz hf T.isinstance rfl (fun u h => h) (pe_glob (by rfl) XX.nb.mgC rfl) XX.kb <| ed_nil <| ed_cons <| ee_tup <| ed_cons <| ee_str <| ed_cons <| ee_exisN 5 (c := .ref (gA K "NoSitters")) (cv := .ref (gA K "NoSitters")) XX.nb.ec hz hf T.isinstance rfl (fun u h => h) (pe_glob (by rfl) XX.gi rfl) XX.ki <| ed_nil <| ed_nil ?_
    refine rs_cons <| rs_asg 6 nd <| ee_catLL <| el_own 6 rfl <| EvL.of <| ee_lst <| ed_cons <| ee_tup <| ed_cons <| ee_str <| ed_cons <| ee_exisN 5 (c := .ref (gA K "NoSeat")) (cv := .ref (gA K "NoSeat")) XX.nb.ec hz hf T.isinstance rfl (fun u h => h) (pe_glob (by rfl) XX.ge rfl) XX.ke <| ed_nil <| ed_cons <| ee_tup <| ed_cons <| ee_str <| ed_cons <| ee_exisN 5 (c := .ref (gA K "NoNumber")) (cv := .ref (gA K "NoNumber")) XX.nb.ec hz hf T.isinstance rfl (fun u h => h) (pe_glob (by rfl) XX.gn rfl) XX.kn <| ed_nil <| ed_nil <| lst_ol ⟨by decide, ?_⟩
    refine rs_freeze 6 <| rs_one <| rs_asg 4 nd <| ee_catLL <| EvL.of <| ee_lcH [("word", 7), ("there", 8)] ([7] ++ ([8] ++ [])) hot nd (blkOk_by (N := nRef) (sc := defScope s_law_refused) (by decide +kernel)) (by decide) <| ei_listH <| ee_var 6 rfl <| lst_d ?_
    refine ⟨fun i acc => acc = if i = 0 then [] else [.str "NoBench"], rfl, by decide, fun i d acc hd ha s0 H0 C cl fp => ?_, fun acc ha => ?_⟩
    · have key : ∃ (x : Str) (b : Bool), d = .tuple [.str x, .bool b] ∧ (if b then i = 0 ∧ x = "NoBench" else 0 < i) := by
        rcases i with _ | _ | _ | _ | i
        · cases hd; exact ⟨_, _, rfl, rfl, rfl⟩
        · cases hd; exact ⟨_, _, rfl, by simp⟩
        · cases hd; exact ⟨_, _, rfl, by simp⟩
        · cases hd; exact ⟨_, _, rfl, by simp⟩
        · cases hd
      obtain ⟨x, b, rfl, hb⟩ := key
      refine at_tupH (by exact hot) <| ats_cons <| at_name 7 nd <| ats_cons <| at_name 8 nd <| ats_nil fun s0 H0 C cl fp => ets_one <| et_val <| ee_var 8 rfl ?_
      have ha : acc = if i = 0 then [] else [PyData.str "NoBench"] := ha
      cases b with
      | true =>
        obtain ⟨rfl, rfl⟩ : i = 0 ∧ x = "NoBench" := hb
        refine fun s0 H0 C cl fp => ee_var 7 rfl ?_
        show acc ++ [.str "NoBench"] = _
        rw [ha]
        rfl
      | false =>
        have hb : 0 < i := hb
        skip
        show acc = _
        rw [ha, if_neg (by omega), if_neg (by omega)]
    · have ha : acc = [PyData.str "NoBench"] := ha
      subst ha
      refine EvL.of <| ee_lst <| ed_cons <| ee_exisN 5 (c := .ty "ValueError") (cv := .type "ValueError") XX.nb.ec hz hf T.isinstance rfl (fun u h => h) (pe_bltn (by rfl) XX.gv boot_VE rfl) XX.kv <| ed_nil <| lst_ol ⟨by decide, ?_⟩
      exact rs_one <| rs_retOwn 4 rfl qk
end
end Sit
set_option pp.maxSteps 1500
namespace Ab
open PySem PySem.Spec L2
section
variable {X : Cx} {B : Bg} {Γ : List Sl} {pos : Pos} {k : Sl → Prop}
/-- bag[0][bag[1] % m:] -/
theorem ee_bagTail1 (i : Nat) {x : Str} {m : Int} {j0 j1 jm : Nat} {q1 q2 q3 q4 q5 q6 q7 q8 q9 : Pos} (hg : Γ[i]? = some .bg) (hm : 0 < m) (hm2 : m ≤ 300) (q : ∀ ps : List Int, Sit.Picks ps → 100 ≤ ps.length → k (.ol (ps.map .int))) (hN : X.N[i]? = some x := by rfl) (hv : Vis X.env.scope x := by first | exact Or.inl rfl | exact Or.inr (Or.inl rfl) | exact Or.inr (Or.inr rfl))
    (hd : (x == ("__debug__" : Str)) = false := by decide) (hcd : (x == ("__classdict__" : Str)) = false := by decide) (hs0 : PlainIx (.Constant (.int 0) j0 q2) := by intro _ _; rfl) (hs1 : PlainIx (.Constant (.int 1) j1 q5) := by intro _ _; rfl) :
    EvE X B (.Subscript (.Subscript (.Name x q1) (.Constant (.int 0) j0 q2) q3) (.Slice (some (.BinOp (.Subscript (.Name x q4) (.Constant (.int 1) j1 q5) q6) .Mod (.Constant (.int m) jm q7) q8)) none none q9) pos) Γ k :=
  ee_slL (EvL.of (ee_bag0 i hg (fun ns hl hr => lst_d (eo_some (ee_mod (ee_bag1 i hg (fun b hb => ee_int (⟨hm, eo_none (by
    have h0 := Int.emod_nonneg b (show m ≠ 0 by omega)
    have h1 := Int.emod_lt_of_pos b hm
    rw [cut_from _ h0, Sit.drop_map]
    exact q _ (Sit.Picks.drop ⟨by omega, hr⟩ _) (by rw [List.length_drop]; omega))⟩)) hN hv hd hcd hs1)))) hN hv hd hcd hs0))
end
end Ab
namespace Sit
open PySem PySem.Spec PyProof.Rows L2 Ab
/-- short, if it is a tuple -/
def Sm (t : PyData) : Prop := ∀ ds, t = .tuple ds → ds.length ≤ 1000000
theorem Sm.tup {ds : List PyData} (h : ds.length ≤ 1000000) : Sm (.tuple ds) := fun _ e => by cases e; exact h
theorem sm_gd {L n : Nat} {t : PyData} (h : gd L n t = true) (hL : L ≤ 1000000) : Sm t := fun ds e => by
  subst e
  cases n with
  | zero => cases h
  | succ n => exact Nat.le_trans (gd_tup.mp h).1 hL
theorem sm_int (i : Int) : Sm (.int i) := fun _ e => by cases e
section
variable {P : Program} {w : World} {K : PySem.W.Frag} {mg : Str → Option Value} {base : Heap}
theorem law_ofL {n : Nat} {st : Stmt} {N : List Str} {fd : FuncData} (F : FunD K "law" "law" (defArgs st) (defBody st) (defScope st) [] [] (He.fAd K ("law", none)) fd) (TB : LamX.TabB base mg (He.cT K ("law", none)).1 (He.cT K ("law", none)).2) (hU : LamU K) (hin : (("law" : Str), ("law.<locals>.<lambda>" : Str)) ∈ lamDefs) (S : FnScope N ["script"] (defScope st))
    (body : ∀ (f : Addr) (cdv : Value) (A : Around) (outer : List Env) (s : Shared) (H : Hp) (E : XK), Room n (A.deeper (envOfC "law" (defScope st) s.heap.objs.size f cdv)) → LamHere (cxOf CX0 P w K mg base N "law" (defScope st) f cdv A outer s H E).nox "law.<locals>.<lambda>" → ∀ ns : List Int,
      RunSs (cxOf CX0 P w K mg base N "law" (defScope st) f cdv A outer s H E).nox (B0 K) (defBody st) (startS N [.scr ns]) { nx := fun _ => False, rt := fun r => r = .d (.bool true) }) : FnOk P w K mg base CX0 (n + 1) (He.fAd K ("law", none)) fd ["script"] (spLaw K) := by
  obtain ⟨oc, od, dV, kV, doc, pm, an, cdv, ct, osl, rfl, lk, hcd, _, _⟩ := F.ex
  obtain ⟨c, rfl⟩ := He.codeIn_ref hcd
  have hc : He.codeOf K ("law", none) = c := He.codeOf_eq lk rfl
  refine fn_of lk hcd S (fun vs H Q E ⟨_, _, e, _⟩ => by rw [e]; rfl) (fun A outer s H vs Q E hr ⟨a, ns, e, hS, hT, q⟩ => ?_)
  subst e
  have LH : LamHere (cxOf CX0 P w K mg base N "law" (defScope st) (He.fAd K ("law", none)) (.ref c) A outer s H E).nox "law.<locals>.<lambda>" := by
    have hin2 : ((He.cT K ("law", none)).2, ("law.<locals>.<lambda>" : Str)) ∈ lamTabs K := List.mem_map.mpr ⟨_, hin, rfl⟩
    refine ⟨c, (He.cT K ("law", none)).2, ?_, rfl, rfl, hin2, fun t ht e => hU t ht _ hin2 e⟩
    have e1 : (He.cT K ("law", none)).1 = c := hc
    rw [← e1]
    exact TB
  refine ⟨_, pss_self.nox, ?_⟩
  classical
  let G : Hp := fun b => if (B0 K) b then none else H b
  have gin : ∀ b, (B0 K) b → G b = none := fun b h => if_pos h
  have gout : ∀ b, ¬ (B0 K) b → G b = H b := fun b h => if_neg h
  have htab : ∀ b, (B0 K) b → H b = some (.tbl #[]) := fun b h => h.elim (fun f => f.elim) fun ⟨q, hq⟩ => hT _ hq
  have okG : Ok (B0 K) G H := ⟨fun b o e => by
    by_cases hb : (B0 K) b
    · rw [gin b hb] at e; cases e
    · rw [gout b hb] at e; exact e, fun _ h => h.elim, fun p hp => ⟨gin _ (.inr ⟨p.2, hp⟩), #[], hT p hp, trivial, fun at_ cv hc => by
      have z : codeAmong at_ [] = some cv := hc
      simp [codeAmong] at z⟩⟩
  have hSG : L2.SqL K G a (ns.map V.int) := by
    rcases hS with (h | ⟨o, h⟩) | h
    · exact .inl (.inl (by rw [gout a fun z => by rw [htab a z] at h; cases h]; exact h))
    · exact .inl (.inr ⟨o, by rw [gout a fun z => by rw [htab a z] at h; cases h]; exact h⟩)
    · exact .inr h
  have ao : ArgOk K (B0 K) G H [.ref a] [.scr ns] := .cons ⟨rfl, a, rfl, hSG⟩ .nil
  refine (body _ (.ref c) A outer s H E hr LH ns).run G H _ G H _ ⟨Grow.refl okG, envOk_start rfl ao, fun i t p e o ev => ?_⟩ ⟨fun _ _ _ _ _ q => q.elim, fun v G' H' r g re er => ?_, fun _ _ _ _ _ q => q.elim, fun _ _ _ _ _ q => q.elim, fun _ _ _ => trivial⟩
  · exfalso
    unfold startS at e
    rcases i with _ | i
    · cases e; cases o
    · rw [List.getElem?_append_right (by simp), List.getElem?_replicate] at e
      split at e
      · cases e; cases o
      · cases e
  · subst er
    have hv : Ab.Dp K G' v (.bool true) := re.1
    cases hv
    exact q H'
abbrev nLaw : List Str := ["script", "bag", "bench", "sitters", "once", "things", "thing", "kin"]
theorem sc_law : FnScope nLaw ["script"] (defScope s_law) := ⟨rfl, rfl, rfl, by decide +kernel, rfl, by decide +kernel, by decide +kernel⟩
/-- the lambda's promise: NoBench -/
def spLam : FSX := fun rs _ ke => ∃ (d t c : PyData), rs = [.d d, .d t, .d c] ∧ Sm t ∧ within d 1 (10 ^ 18) = false ∧ ke (.bare "NoBench")
theorem cpow18 : CPow 10 18 := ⟨by decide, by decide, by decide⟩
theorem fl_kinB : Fl 1 (.list kinB) := .lst (Fl.two (.str (by simp only [PyData.canLay0]; decide +kernel)) (.bool _))
theorem ok_law (T : Bt mg) {fd : FuncData} (F : FunD K "law" "law" (defArgs s_law) (defBody s_law) (defScope s_law) [] [] (He.fAd K ("law", none)) fd) (TB : LamX.TabB base mg (He.cT K ("law", none)).1 (He.cT K ("law", none)).2) (hU : LamU K)
    (hB : HasH P w K mg base 3 "_law_bags" ["script", "limit"] (spBags K)) (hT : Has P w K mg base 1 "_law_take" ["bag", "many"] spTake) (hF : Has P w K mg base 2 "_law_far_draw" ["bag", "many"] spTake) (hS : Has P w K mg base 3 "_law_some" ["bag", "bench", "most"] spSome)
    (hSp : ∀ L m : Nat, 2 ≤ L → L ≤ 100 → Has P w K mg base (m + 2) "_law_spoilt" ["thing", "picks"] (spSpoiltL L m)) (hO : Has P w K mg base 1 "_law_odd" ["picks"] spOdd) (hA : HasN P w K mg base 4 "are_sitters" ["bench", "thing"] spSitN) (hLS : Has P w K mg base 2 "_law_are_sitters" ["bench", "thing"] spLawSit)
    (hIB : Has P w K mg base 2 "is_bench" ["thing"] spIsBench) (hLF : Has P w K mg base 1 "_law_from" ["thing", "least", "top"] spFromD) (hR : Has P w K mg base 6 "_law_refused" ["call", "one", "two", "three"] (spRefN P w K mg base 5)) : FnOk P w K mg base CX0 7 (He.fAd K ("law", none)) fd ["script"] (spLaw K) := by
  refine law_ofL F TB hU (by first | exact List.mem_cons_self | exact List.mem_cons_of_mem _ List.mem_cons_self) sc_law fun f cdv A outer s H E hr LH ns => ?_
  have nd := sc_law.nd
  refine rs_cons <| rs_forBags 1 PassesOwn.never rfl nd hB hr (by decide) rfl (fun j => by
    rcases j with _ | _ | _ | _ | _ | _ | _ | _ | j <;> simp [startS]) (ea_cons <| ee_var 0 rfl <| ea_cons <| ee_int <| ea_nil ⟨ns, 8, rfl, by decide⟩) (fun B => ?_) ?_
  · refine rs_cons <| rs_asg 2 nd <| ee_mono (k0 := fun r => ∃ n : Int, r = .d (.int n) ∧ 1 ≤ n ∧ n ≤ 10 ^ 18) ?_ fun r ⟨n, er, hn0, hn1⟩ => ?_
    · refine ee_ixL <| EvL.of <| ee_lst <| ed_cons <| ee_add <| ee_int <| ee_call hT hr <| ea_cons <| ee_var 1 rfl <| ea_cons <| ee_int <| ea_nil ⟨_, rfl, by decide, fun r r0 r1 => ed_cons <| ee_pow <| ee_int <| ee_int ⟨cpow18, ?_⟩⟩
      refine ed_cons <| ee_add <| ee_int <| ee_call hF hr <| ea_cons <| ee_var 1 rfl <| ea_cons <| ee_pow <| ee_int <| ee_int ⟨cpow18, ea_nil ⟨_, rfl, by decide, fun r2 r20 r21 => ?_⟩⟩
      have r21 : r2 < 10 ^ 18 := r21
      refine ed_cons <| ee_int <| ed_cons <| ee_int <| ed_nil <| lst_ol <| ee_call hT hr <| ea_cons <| ee_var 1 rfl <| ea_cons <| ee_int <| ea_nil ⟨_, rfl, by decide, fun t t0 t1 => ?_⟩
      have ht : t = ((0 : Nat) : Int) ∨ t = ((1 : Nat) : Int) ∨ t = ((2 : Nat) : Int) ∨ t = ((3 : Nat) : Int) ∨ t = ((4 : Nat) : Int) := by omega
      rcases ht with rfl | rfl | rfl | rfl | rfl
      · exact ⟨_, atI_nat rfl, _, rfl, by omega, by omega⟩
      · exact ⟨_, atI_nat rfl, _, rfl, by decide, by decide⟩
      · exact ⟨_, atI_nat rfl, _, rfl, by omega, by omega⟩
      · exact ⟨_, atI_nat rfl, _, rfl, by decide, by decide⟩
      · exact ⟨_, atI_nat rfl, _, rfl, by decide, by decide⟩
    subst er
    have hwn : within (.int n) 1 (10 ^ 18) = true := within_11 hn0 hn1
    refine rs_cons <| rs_asg 3 nd <| ee_call hS hr <| ea_cons <| ee_var 1 rfl <| ea_cons <| ee_var 2 rfl <| ea_cons <| ee_int <| ea_nil ⟨_, _, rfl, by omega, by decide, by decide, fun ss hss hl => ?_⟩
    have hgd : gd 8 1 (.tuple (ss.map .int)) = true := gd_tup.mpr ⟨by rw [List.length_map]; omega, fun d hd => by obtain ⟨i, _, rfl⟩ := List.mem_map.mp hd; rfl⟩
    refine rs_cons <| rs_asg 4 nd <| ee_call (hSp 8 1 (by decide) (by decide)) hr <| ea_cons <| ee_var 3 rfl <| ea_cons <| ee_bagTail1 1 rfl (by decide) (by decide) fun qs hq hql => ea_nil ⟨_, qs, rfl, hgd, hq, by omega, fun once honce => ?_⟩
    refine rs_cons <| rs_asg 5 nd <| ee_mono (k0 := fun r => ∃ ds, r = .ol ds ∧ ds.length = 4 ∧ ∀ d ∈ ds, Sm d) ?_ fun r ⟨ds, er, hdl, hds⟩ => ?_
    · have hcl : (Ab.cutD (ss.map PyData.int) (some (-1)) none).length ≤ ss.length := by
        unfold Ab.cutD
        rw [List.length_take, List.length_drop, List.length_map]
        omega
      refine ee_lst <| ed_cons <| ee_var 3 rfl <| ed_cons <| ee_listT T.list <| ee_var 3 rfl <| tup_d <| ed_cons <| ee_revT <| ee_var 3 rfl <| tup_d <| ed_cons <| ee_catT <| ee_var 3 rfl <| tup_d <| ee_slT <| ee_var 3 rfl <| tup_d <| eo_some <| ee_neg <| ee_int <| eo_none <| tup_d ⟨?_, ed_nil ⟨_, rfl, rfl, fun d hd => ?_⟩⟩
      · rw [List.length_map]
        omega
      · rcases List.mem_cons.mp hd with rfl | hd
        · exact Sm.tup (by rw [List.length_map]; omega)
        rcases List.mem_cons.mp hd with rfl | hd
        · exact fun _ e => by cases e
        rcases List.mem_cons.mp hd with rfl | hd
        · exact Sm.tup (by rw [List.length_reverse, List.length_map]; omega)
        rw [List.mem_singleton.mp hd]
        exact Sm.tup (by rw [List.length_append, List.length_map]; omega)
    subst er
    refine rs_cons <| rs_asg 5 nd <| ee_mono (k0 := fun r => ∃ ds, r = .ol ds ∧ ds.length = 8 ∧ ∀ d ∈ ds, Sm d) ?_ fun r ⟨ds2, er, hdl2, hds2⟩ => ?_
    · refine ee_catLL <| el_own 5 rfl <| EvL.of <| ee_lst <| ed_cons <| ee_tup <| ed_cons <| ee_int <| ed_cons <| ee_sub <| ee_var 2 rfl <| ee_int <| ed_nil <| ed_cons <| ee_tup <| ed_cons <| ee_var 2 rfl <| ed_nil <| ed_cons <| ee_tup <| ed_cons <| ee_neg <| ee_int <| ed_cons <| ee_int <| ed_nil <| ed_cons <| ee_tup <| ed_cons <| ee_bl <| ed_nil <| ed_nil <| lst_ol ⟨?_, _, rfl, ?_, fun d hd => ?_⟩
      · simp only [hdl, List.length_cons, List.length_nil]; omega
      · rw [List.length_append, hdl]; rfl
      · rcases List.mem_append.mp hd with hd | hd
        · exact hds d hd
        rcases List.mem_cons.mp hd with rfl | hd
        · exact Sm.tup (by simp)
        rcases List.mem_cons.mp hd with rfl | hd
        · exact Sm.tup (by simp)
        rcases List.mem_cons.mp hd with rfl | hd
        · exact Sm.tup (by simp)
        rw [List.mem_singleton.mp hd]
        exact Sm.tup (by simp)
    subst er
    refine rs_cons <| rs_asg 5 nd <| ee_mono (k0 := fun r => ∃ ds, r = .ol ds ∧ ds.length = 10 ∧ ∀ d ∈ ds, Sm d) ?_ fun r ⟨ds, er, hdl, hds⟩ => ?_
    · refine ee_catLL <| el_own 5 rfl <| EvL.of <| ee_lst <| ed_cons <| ee_tupRg1 T.tuple T.range rfl <| ee_int ⟨by decide, by decide, ed_cons <| ee_tupRg1 T.tuple T.range rfl <| ee_int ⟨by decide, by decide, ed_nil <| lst_ol ⟨?_, _, rfl, ?_, fun d hd => ?_⟩⟩⟩
      · simp only [hdl2, List.length_cons, List.length_nil]; omega
      · rw [List.length_append, hdl2]; rfl
      · rcases List.mem_append.mp hd with hd | hd
        · exact hds2 d hd
        rcases List.mem_cons.mp hd with rfl | hd
        · exact Sm.tup (by rw [rg_length]; decide)
        rw [List.mem_singleton.mp hd]
        exact Sm.tup (by rw [rg_length]; decide)
    subst er
    refine rs_cons <| rs_asg 5 nd <| ee_mono (k0 := fun r => ∃ ds, r = .ol ds ∧ ds.length = 12 ∧ ∀ d ∈ ds, Sm d) ?_ fun r ⟨ds2, er, hdl2, hds2⟩ => ?_
    · refine ee_catLL <| el_own 5 rfl <| EvL.of <| ee_lst <| ed_cons <| ee_var 4 rfl <| ed_cons <| ee_call (hSp 9 4 (by decide) (by decide)) hr <| ea_cons <| ee_var 4 rfl <| ea_cons <| ee_bagTail2 1 rfl (by decide) (by decide) (by decide) fun qs hql hql2 hq => ea_nil ⟨_, qs, rfl, honce, ⟨by omega, hq⟩, by omega, fun twice htwice => ed_nil <| lst_ol ⟨?_, _, rfl, ?_, fun d hd => ?_⟩⟩
      · simp only [hdl, List.length_cons, List.length_nil]; omega
      · rw [List.length_append, hdl]; rfl
      · rcases List.mem_append.mp hd with hd | hd
        · exact hds d hd
        rcases List.mem_cons.mp hd with rfl | hd
        · exact sm_gd honce (by decide)
        rw [List.mem_singleton.mp hd]
        exact sm_gd htwice (by decide)
    subst er
    refine rs_cons <| rs_for [6] PassesOwn.never rfl <| ei_list <| ee_catLL <| el_own 5 rfl <| EvL.of <| ee_lst <| ed_cons <| ee_call hO hr <| ea_cons <| ee_bagTail1 1 rfl (by decide) (by decide) fun qs hq hql => ea_nil ⟨qs, rfl, hq, by omega, fun od hod => ed_cons <| ee_var 2 rfl <| ed_nil <| lst_ol ⟨?_, lst_ol ?_⟩⟩
    · simp only [hdl2, List.length_cons, List.length_nil]; omega
    have hall : ∀ d ∈ ds2 ++ [od, .int n], Sm d := fun d hd => by
      rcases List.mem_append.mp hd with hd | hd
      · exact hds2 d hd
      rcases List.mem_cons.mp hd with rfl | hd
      · exact sm_gd hod (by decide)
      rw [List.mem_singleton.mp hd]
      exact sm_int _
    refine ⟨fun i Γ' => ∃ z6 z7 : Sl, Γ' = [.scr ns, .bg, .d (.int n), .d (.tuple (ss.map .int)), .d once, .ol ds2, z6, z7], ⟨_, _, rfl⟩, fun i d Γ' hd ⟨z6, z7, hΓ⟩ => ?_, fun Γ' ⟨z6, z7, hΓ⟩ => ?_⟩
    · subst hΓ
      have hsm : Sm d := hall d (List.mem_of_getElem? hd)
      refine at_name 6 nd ?_
      refine rs_cons <| rs_if <| et_ne hr <| EvV.of <| ee_reprB T.repr <| ee_callN hA hr <| ea_cons <| ee_var 2 rfl <| ea_cons <| ee_var 6 rfl <| ea_nil ⟨.int n, d, rfl, hsm, fun m e hw => ?_, fun hw => by rw [hwn] at hw; cases hw⟩
      cases e
      refine EvV.of <| ee_reprB T.repr <| ee_call hLS hr <| ea_cons <| ee_var 2 rfl <| ea_cons <| ee_var 6 rfl <| ea_nil ⟨n, d, rfl, hsm, sh_reprB _, sh_reprB _, ifF (by rw [eqv_reprB]; simp) <| rs_nil ?_⟩
      refine rs_one <| rs_if <| et_ne hr <| EvV.of <| ee_reprB T.repr <| ee_call hIB hr <| ea_cons <| ee_var 6 rfl <| ea_nil ⟨d, rfl, EvV.of <| ee_reprB T.repr <| ee_call hLF hr <| ea_cons <| ee_var 6 rfl <| ea_cons <| ee_int <| ea_cons <| ee_pow <| ee_int <| ee_int ⟨cpow18, ea_nil ⟨d, 1, 10 ^ 18, rfl, sh_reprB _, sh_reprB _, ifF (by rw [eqv_reprB]; simp) <| rs_nil ⟨_, _, rfl⟩⟩⟩⟩
    subst hΓ
    refine rs_cons <| rs_for [6] PassesOwn.never rfl <| ei_tup <| ee_tup <| ed_cons <| ee_int <| ed_cons <| ee_neg <| ee_int <| ed_cons <| ee_bl <| ed_cons <| ee_add <| ee_pow <| ee_int <| ee_int ⟨cpow18, ee_int <| ed_cons <| ee_str <| ed_cons <| ee_non <| ed_cons <| ee_tup <| ed_cons <| ee_int <| ed_nil <| ed_nil <| tup_d ?_⟩
    refine ⟨fun i Γ' => ∃ z6 z7 : Sl, Γ' = [.scr ns, .bg, .d (.int n), .d (.tuple (ss.map .int)), .d once, .ol ds2, z6, z7], ⟨_, _, rfl⟩, fun i d Γ' hd ⟨z6, z7, hΓ⟩ => ?_, fun Γ' ⟨z6, z7, hΓ⟩ => ?_⟩
    · subst hΓ
      have hw : within d 1 (10 ^ 18) = false := by
        rcases i with _ | _ | _ | _ | _ | _ | _ | i
        all_goals cases hd
        all_goals decide +kernel
      refine at_name 6 nd ?_
      have hss : Sm (.tuple (ss.map .int)) := Sm.tup (by rw [List.length_map]; omega)
      refine rs_cons <| rs_asg 7 nd <| ee_call hR hr <| ea_cons <| ee_lam LH ⟨by rfl, by decide⟩ <| ea_cons <| ee_var 6 rfl <| ea_cons <| ee_var 3 rfl <| ea_cons <| ee_int <| ea_nil ⟨_, _, _, _, spLam, d, .tuple (ss.map .int), .int 0, rfl, ?_, fun k' => ⟨_, _, _, rfl, hss, hw, rfl⟩, ?_⟩
      · refine callee_of (N := ["a", "b", "c"]) (ps := ["a", "b", "c"]) ⟨⟨rfl, rfl, rfl, by decide +kernel, rfl, by decide +kernel, by decide +kernel⟩, fun _ _ _ us hl => match us, hl with | [_, _, _], _ => rfl⟩ (fun rs k ke ⟨_, _, _, e, _⟩ => by rw [e]; rfl) fun f cdv A outer s H E hr tk B G rs ks ke Q σ ok en pr cont cex => ?_
        obtain ⟨d, t, c, rfl, hsm, hw, hke⟩ := pr
        exact tE_callN hA hr tk ok en (ea_cons <| ee_var 0 rfl <| ea_cons <| ee_var 1 rfl <| ea_nil ⟨d, t, rfl, hsm, (fun n _ h => by rw [hw] at h; cases h), fun _ => hke⟩) cont cex
      · refine rs_one <| rs_if <| et_of_w <| ew_or <| et_isnB <| ee_call hIB hr <| ea_cons <| ee_var 6 rfl <| ea_nil ⟨d, rfl, ee_bl <| ifF (by rw [hw]; rfl) ?_⟩
        exact ew_or1 <| et_ne hr <| ev_own 7 rfl <| EvV.of <| ee_lst <| ed_cons <| ee_str <| ed_cons <| ee_bl <| ed_nil ⟨fl_kinB.sh, fl_kinB.sh, ifF (by have := eqv_self (.list kinB) fl_kinB.c; rw [show PyData.eqv (.list kinB) (.list [.str "NoBench", .bool true]) = true from this]; rfl) <| rs_nil ⟨_, _, rfl⟩⟩
    · subst hΓ
      refine rs_one <| rs_if <| et_of_w <| ew_or <| et_not <| et_val <| ee_call hIB hr <| ea_cons <| ee_int <| ea_nil ⟨_, rfl, ?_⟩
      refine ew_or <| et_not <| et_val <| ee_call hIB hr <| ea_cons <| ee_pow <| ee_int <| ee_int ⟨cpow18, ea_nil ⟨_, rfl, ?_⟩⟩
      refine ew_or1 <| et_isnB <| ee_callN hA hr <| ea_cons <| ee_var 2 rfl <| ea_cons <| ee_tup <| ed_nil <| ea_nil ⟨.int n, .tuple [], rfl, Sm.tup (by simp), fun m e hw => ?_, fun hw => by rw [hwn] at hw; cases hw⟩
      cases e
      refine ee_bl <| rs_nil ?_
      refine ⟨rfl, fun j s e => ?_⟩
      rcases j with _ | _ | _ | _ | _ | _ | _ | _ | j
      · exact .inr e
      all_goals first | (cases e; exact .inl rfl) | (cases e; done)
  · exact rs_one <| rs_ret <| ee_bl rfl
end
end Sit









set_option maxHeartbeats 0
namespace Sit
open PySem PySem.Spec PyProof.Rows L2 Ab
def mkD (n : String) (i : Nat) : He.DefD := ⟨((n : Str), none), (n : Str), (n : Str), defArgs (top i), defBody (top i), defScope (top i), [], []⟩
def mkM (c q : String) (s : Stmt) : He.DefD := ⟨((c : Str), some ("__init__" : Str)), "__init__", (q : Str), defArgs s, defBody s, defScope s, [], []⟩
def fn : List He.DefD := [mkD "is_within" 11, mkD "is_bench" 12, mkD "are_seats" 13, mkD "need_bench" 14, mkD "are_sitters" 15, mkD "_law_cell_at" 17, mkD "_law_draws" 18, mkD "_law_spoilt" 19, mkD "_law_from" 20, mkD "_law_bag" 21, mkD "_law_bags" 22, mkD "_law_take" 23, mkD "_law_odd" 24, mkD "_law_some" 25, mkD "_law_far_draw" 26, mkD "_law_refused" 27, mkD "_law_are_sitters" 28, mkD "law" 29, mkM "NoDeed" "NoDeed.__init__" m_NoDeed, mkM "TooMany" "TooMany.__init__" m_TooMany]
def fa : List He.Fa := [.glo "is_within", .glo "is_bench", .glo "are_seats", .glo "need_bench", .glo "are_sitters", .glo "_law_cell_at", .glo "_law_draws", .glo "_law_spoilt", .glo "_law_from", .glo "_law_bag", .glo "_law_bags", .glo "_law_take", .glo "_law_odd", .glo "_law_some", .glo "_law_far_draw", .glo "_law_refused", .glo "_law_are_sitters", .glo "law", .free "isinstance", .free "int", .free "bool", .free "tuple", .free "list", .free "str", .free "len", .free "all", .free "zip", .free "range", .free "min", .free "max", .free "abs", .free "sum", .free "sorted", .free "set", .free "repr", .free "enumerate", .int "LONGEST" (10 ^ 18), .int "MOST_SITTERS" (8), .glo "SeatError", .glo "NoBench", .glo "NoSitters", .glo "NoSeat", .glo "NoNumber", .glo "NoDeed", .glo "TooMany", .free "ValueError"]
abbrev R : PySem.W.OpenRow := PySem.W.OpenLaw.row PySem.Challenge.rw_sitapart_k01_benches_and_sitters_known
def tf : List He.Defn := [(("law" : Str), none)]
def exL (K : PySem.W.Frag) : Bool := (lamTabs K).all fun t => (lamTabs K).all fun u => !decide (t.1 = u.1) || decide (t.2 = u.2)
theorem exL_ok {K : PySem.W.Frag} (h : exL K = true) : LamU K := fun t ht u hu e => by
  have q := List.all_eq_true.mp (List.all_eq_true.mp h t ht) u hu
  rw [decide_eq_true e] at q
  exact of_decide_eq_true q
abbrev exB (K : PySem.W.Frag) : Bool := Ab.exc01 K && exL K
abbrev hk : PySem.W.Hook := Ab.hookY 4 fa fn [] tf exB
def ob (s : PySem.W.SharedT) : He.AlX := Ab.obsY 4 fa fn [] tf exB (HandSHeadRun.getT s)
theorem ob_eq (s : PySem.W.SharedT) : ob s = hk.obs s.abs := Ab.obsY_eq (HandSHeadRun.getT_eq s)
def nms : List Str := (["SeatError", "NoBench", "NoSitters", "NoSeat", "NoNumber", "NoDeed", "TooMany", "LONGEST", "MOST_SITTERS", "is_within", "is_bench", "are_seats", "need_bench", "are_sitters", "_law_cell_at", "_law_draws", "_law_spoilt", "_law_from", "_law_bag", "_law_bags"] : List Str) ++ (["_law_take", "_law_odd", "_law_some", "_law_far_draw", "_law_refused", "_law_are_sitters"] : List Str)
theorem run (w : World) : HandSHeadRun.RunEq R (PySem.W.view R.prog [29]) hk ob 20000 nms w := by
  intro os
  kernel_rfl
theorem df_of {K : PySem.W.Frag} {h : Heap} {mg : Str → Option Value} (X : K.In h) (G : h.Ns mainGlobals mg) (c : He.SaysD fa fn K) {x : String} {j i : Nat} {ps : List Str} (hd : fn[j]? = some (mkD x i)) (hf : fa[j]? = some (.glo x))
    (hb : ∀ (kV doc pm : Value) (an : Option Addr) (cdv ct : Value) (us : List Value), us.length = ps.length → bindArgs (PySem.W.fnOf x x (defArgs (top i)) (defBody (top i)) (defScope (top i)) .none kV doc pm an cdv ct) ⟨us, []⟩ = pure (ps.zip us)) : Df K mg x (top i) ps := by
  obtain ⟨fd, F⟩ := c.def_ j hd
  exact ⟨_, fd, F, He.glo_ok X G (c.fact j hf), F.bindsN hb⟩
theorem dfl_of {K : PySem.W.Frag} {h : Heap} {mg : Str → Option Value} (X : K.In h) (G : h.Ns mainGlobals mg) (c : He.SaysD fa fn K) {x : String} {j i : Nat} {ps : List Str} (hd : fn[j]? = some (mkD x i)) (hf : fa[j]? = some (.glo x))
    (hb : ∀ (kV doc pm : Value) (an : Option Addr) (cdv ct : Value) (us : List Value), us.length = ps.length → bindArgs (PySem.W.fnOf x x (defArgs (top i)) (defBody (top i)) (defScope (top i)) .none kV doc pm an cdv ct) ⟨us, []⟩ = pure (ps.zip us)) : DfL K mg x (top i) ps := by
  obtain ⟨fd, F⟩ := c.def_ j hd
  exact ⟨fd, F, He.glo_ok X G (c.fact j hf), F.bindsN hb⟩
theorem facts {P : Program} {w : World} {K : PySem.W.Frag} {h : Heap} {mg : Str → Option Value} {f : Addr} (X : K.In h) (G : h.Ns mainGlobals mg) (hfa : mg ("law" : Str) = some (.ref f)) (c : He.SaysD fa fn K) (hU : LamU K) (hX : Ab.exc01 K = true) :
    ∃ fd : FuncData, (∀ (s : Shared) (v : Value), BindsTo s fd ⟨[v], []⟩ [("script", v)]) ∧ ∀ base : Heap, K.In base → base.Ns mainGlobals mg → (∀ p ∈ tf.map (He.cT K), LamX.TabB base mg p.1 p.2) → FnOk P w K mg base CX0 7 f fd ["script"] (spLaw K) := by
  have d_is_within : Df K mg "is_within" s_is_within ["thing", "low", "high"] := df_of X G c (j := 0) (i := 11) rfl rfl fun _ _ _ _ _ _ us hl => match us, hl with | [_, _, _], _ => rfl
  have d_is_bench : Df K mg "is_bench" s_is_bench ["thing"] := df_of X G c (j := 1) (i := 12) rfl rfl fun _ _ _ _ _ _ us hl => match us, hl with | [_], _ => rfl
  have d_are_seats : Df K mg "are_seats" s_are_seats ["bench", "thing"] := df_of X G c (j := 2) (i := 13) rfl rfl fun _ _ _ _ _ _ us hl => match us, hl with | [_, _], _ => rfl
  have d_need_bench : Df K mg "need_bench" s_need_bench ["bench"] := df_of X G c (j := 3) (i := 14) rfl rfl fun _ _ _ _ _ _ us hl => match us, hl with | [_], _ => rfl
  have d_are_sitters : Df K mg "are_sitters" s_are_sitters ["bench", "thing"] := df_of X G c (j := 4) (i := 15) rfl rfl fun _ _ _ _ _ _ us hl => match us, hl with | [_, _], _ => rfl
  have d_law_cell_at : Df K mg "_law_cell_at" s_law_cell_at ["script", "k"] := df_of X G c (j := 5) (i := 17) rfl rfl fun _ _ _ _ _ _ us hl => match us, hl with | [_, _], _ => rfl
  have d_law_draws : Df K mg "_law_draws" s_law_draws ["cell", "many", "size"] := df_of X G c (j := 6) (i := 18) rfl rfl fun _ _ _ _ _ _ us hl => match us, hl with | [_, _, _], _ => rfl
  have d_law_spoilt : Df K mg "_law_spoilt" s_law_spoilt ["thing", "picks"] := df_of X G c (j := 7) (i := 19) rfl rfl fun _ _ _ _ _ _ us hl => match us, hl with | [_, _], _ => rfl
  have d_law_from : Df K mg "_law_from" s_law_from ["thing", "least", "top"] := df_of X G c (j := 8) (i := 20) rfl rfl fun _ _ _ _ _ _ us hl => match us, hl with | [_, _, _], _ => rfl
  have d_law_bag : Df K mg "_law_bag" s_law_bag ["script", "k"] := df_of X G c (j := 9) (i := 21) rfl rfl fun _ _ _ _ _ _ us hl => match us, hl with | [_, _], _ => rfl
  have d_law_bags : Df K mg "_law_bags" s_law_bags ["script", "limit"] := df_of X G c (j := 10) (i := 22) rfl rfl fun _ _ _ _ _ _ us hl => match us, hl with | [_, _], _ => rfl
  have d_law_take : Df K mg "_law_take" s_law_take ["bag", "many"] := df_of X G c (j := 11) (i := 23) rfl rfl fun _ _ _ _ _ _ us hl => match us, hl with | [_, _], _ => rfl
  have d_law_odd : Df K mg "_law_odd" s_law_odd ["picks"] := df_of X G c (j := 12) (i := 24) rfl rfl fun _ _ _ _ _ _ us hl => match us, hl with | [_], _ => rfl
  have d_law_some : Df K mg "_law_some" s_law_some ["bag", "bench", "most"] := df_of X G c (j := 13) (i := 25) rfl rfl fun _ _ _ _ _ _ us hl => match us, hl with | [_, _, _], _ => rfl
  have d_law_far_draw : Df K mg "_law_far_draw" s_law_far_draw ["bag", "many"] := df_of X G c (j := 14) (i := 26) rfl rfl fun _ _ _ _ _ _ us hl => match us, hl with | [_, _], _ => rfl
  have d_law_refused : Df K mg "_law_refused" s_law_refused ["call", "one", "two", "three"] := df_of X G c (j := 15) (i := 27) rfl rfl fun _ _ _ _ _ _ us hl => match us, hl with | [_, _, _, _], _ => rfl
  have d_law_are_sitters : Df K mg "_law_are_sitters" s_law_are_sitters ["bench", "thing"] := df_of X G c (j := 16) (i := 28) rfl rfl fun _ _ _ _ _ _ us hl => match us, hl with | [_, _], _ => rfl
  have dL_law : DfL K mg "law" s_law ["script"] := dfl_of X G c (j := 17) (i := 29) rfl rfl fun _ _ _ _ _ _ us hl => match us, hl with | [_], _ => rfl
  have T : Bt mg := ⟨He.free_ok X G (c.fact 18 rfl), He.free_ok X G (c.fact 19 rfl), He.free_ok X G (c.fact 20 rfl), He.free_ok X G (c.fact 21 rfl), He.free_ok X G (c.fact 22 rfl), He.free_ok X G (c.fact 23 rfl), He.free_ok X G (c.fact 24 rfl), He.free_ok X G (c.fact 25 rfl), He.free_ok X G (c.fact 26 rfl), He.free_ok X G (c.fact 27 rfl), He.free_ok X G (c.fact 28 rfl), He.free_ok X G (c.fact 29 rfl), He.free_ok X G (c.fact 30 rfl), He.free_ok X G (c.fact 31 rfl), He.free_ok X G (c.fact 32 rfl), He.free_ok X G (c.fact 33 rfl), He.free_ok X G (c.fact 34 rfl), He.free_ok X G (c.fact 35 rfl)⟩
  have C_LONGEST : ∃ t, mg "LONGEST" = some (.int (10 ^ 18) t) := He.int_ok X G (c.fact 36 rfl)
  have C_MOST_SITTERS : ∃ t, mg "MOST_SITTERS" = some (.int (8) t) := He.int_ok X G (c.fact 37 rfl)
  have g_SeatError : mg "SeatError" = some (.ref (He.ga K "SeatError")) := He.glo_ok X G (c.fact 38 rfl)
  have g_NoBench : mg "NoBench" = some (.ref (He.ga K "NoBench")) := He.glo_ok X G (c.fact 39 rfl)
  have g_NoSitters : mg "NoSitters" = some (.ref (He.ga K "NoSitters")) := He.glo_ok X G (c.fact 40 rfl)
  have g_NoSeat : mg "NoSeat" = some (.ref (He.ga K "NoSeat")) := He.glo_ok X G (c.fact 41 rfl)
  have g_NoNumber : mg "NoNumber" = some (.ref (He.ga K "NoNumber")) := He.glo_ok X G (c.fact 42 rfl)
  have g_NoDeed : mg "NoDeed" = some (.ref (He.ga K "NoDeed")) := He.glo_ok X G (c.fact 43 rfl)
  have g_TooMany : mg "TooMany" = some (.ref (He.ga K "TooMany")) := He.glo_ok X G (c.fact 44 rfl)
  have g_ValueError : mg "ValueError" = none := He.free_ok X G (c.fact 45 rfl)
  obtain ⟨fd_NoDeed, i_NoDeed⟩ := c.def_ 18 (d := mkM "NoDeed" "NoDeed.__init__" m_NoDeed) rfl
  have b_NoDeed : Binds K fd_NoDeed ["self", "at"] [] := FunD.bindsN i_NoDeed fun _ _ _ _ _ _ us hl => match us, hl with | [_, _], _ => rfl
  obtain ⟨fd_TooMany, i_TooMany⟩ := c.def_ 19 (d := mkM "TooMany" "TooMany.__init__" m_TooMany) rfl
  have b_TooMany : Binds K fd_TooMany ["self", "most"] [] := FunD.bindsN i_TooMany fun _ _ _ _ _ _ us hl => match us, hl with | [_, _], _ => rfl
  obtain ⟨fd, F⟩ := c.def_ 17 (d := mkD "law" 29) rfl
  have e := hfa.symm.trans (He.glo_ok X G (c.fact 17 (f := .glo "law") rfl))
  cases e
  have b := FunD.bindsA (ps := ["script"]) F fun _ _ _ _ _ _ us hl => match us, hl with | [_], _ => rfl
  refine ⟨fd, fun s v => b s [v] rfl, fun base _ _ hTB => ?_⟩
  have TB_law := hTB _ (List.mem_map.mpr ⟨(("law" : Str), none), List.mem_cons_self, rfl⟩)
  have XX := exc01_ok hX g_NoBench g_NoDeed g_TooMany g_SeatError g_NoSitters g_NoSeat g_NoNumber g_ValueError
  have h1 := has_within (P := P) (w := w) (base := base) T d_is_within
  have h2 := has_isBench C_LONGEST d_is_bench h1
  have h3 := has_areSeats T d_are_seats h1
  have h4 := has_needN XX d_need_bench h2
  have h5 := has_sitN T C_MOST_SITTERS d_are_sitters h4 h3
  have l1 := has_cellAt (P := P) (w := w) (base := base) T d_law_cell_at
  have l2 := has_draws (P := P) (w := w) (base := base) T d_law_draws
  have l3 := has_bag d_law_bag l1 l2
  have l4 := has_bags T d_law_bags l3
  have l5 := has_take (P := P) (w := w) (base := base) T d_law_take
  have l6 := has_farDraw d_law_far_draw l5
  have l7 := has_some T d_law_some l5 l6
  have l8 := has_fromD (P := P) (w := w) (base := base) T d_law_from
  have l9 := has_odd (P := P) (w := w) (base := base) T d_law_odd
  have l10 := fun (L m : Nat) (h : 2 ≤ L) (h2 : L ≤ 100) => has_spoiltL h h2 T d_law_spoilt l9 m
  have l11 := has_law_sit T d_law_are_sitters l8
  have l12 := has_refN (P := P) (w := w) (base := base) (j := 5) (by decide) T XX d_law_refused
  exact ok_law T F TB_law hU l4 l5 l6 l7 l10 l9 h5 l11 h2 l8 l12
end Sit
open PySem PySem.W PySem.Calls PyProof.Rows
theorem PySem.Challenge.cw_sitapart_k01_benches_and_sitters_known_holds : PySem.Challenge.rw_sitapart_k01_benches_and_sitters_known.Holds := by
  w_on; o_law
  refine HandSHeadRun.head_any (r := OpenLaw.row PySem.Challenge.rw_sitapart_k01_benches_and_sitters_known) (q := view (OpenLaw.row PySem.Challenge.rw_sitapart_k01_benches_and_sitters_known).prog [29]) (H := Sit.hk) (ob := Sit.ob) (M := 20000) (loose := Sit.nms) (d := HandSHeadRun.topDef (OpenLaw.row PySem.Challenge.rw_sitapart_k01_benches_and_sitters_known).prog 29) (kwd := []) Sit.ob_eq
    (by kernel_rfl) (fun s => by kernel_rfl) Sit.run (by kernel_rfl) (by kernel_rfl) (by kernel_rfl) (by rfl) (by first | assumption | decide +kernel) (by decide +kernel) ⟨rfl, rfl, rfl, rfl, rfl, by decide +kernel⟩ ?hw ?hc
  case hw => w_witness2
  case hc =>
    refine LamX.walk_ofTsE (l := PySem.Challenge.rw_sitapart_k01_benches_and_sitters_known) (n := 63) (k := 7) (x := "script") (CX := fun _ => L2.CX0) rfl (by decide) (by kernel_rfl) ⟨rfl, by decide, by decide⟩ ?F (fun _ _ _ _ _ z => z)
    intro w mg fa h Y G hmg0
    obtain ⟨K, KX, c⟩ := Y
    have hmg : mg ("law" : PySem.Str) = some (.ref fa) := by
      have e : (HandSHeadRun.topDef (OpenLaw.row PySem.Challenge.rw_sitapart_k01_benches_and_sitters_known).prog 29).name = ("law" : PySem.Str) := by kernel_rfl
      rw [← e]
      exact hmg0
    obtain ⟨fd, hb, hF⟩ := Sit.facts (P := (PySem.Challenge.rw_sitapart_k01_benches_and_sitters_known).prog) (w := w) KX G hmg c.t.d (Sit.exL_ok (He.ba c.more).2) (He.ba c.more).1
    refine ⟨K, KX, fd, Sit.tf.map (He.cT K), Sit.spLaw K, fun p hp => ?_, fun p hp => ?_, fun p hp => ?_, hb, fun H a ns hl _ hT hS => ⟨a, ns, rfl, hS, fun p hp => ?_, fun _ => rfl⟩, hF⟩
    · obtain ⟨d, hd, rfl⟩ := List.mem_map.mp hp
      exact c.empty d hd
    · obtain ⟨d, hd, rfl⟩ := List.mem_map.mp hp
      exact c.out d hd
    · obtain ⟨d, hd, rfl⟩ := List.mem_map.mp hp
      exact codeHd_of_K KX (c.hd d hd)
    · obtain ⟨d, hd, rfl⟩ := List.mem_map.mp hp
      refine hT (He.cT K (d.1, none)) (List.mem_map.mpr ⟨_, ?_, rfl⟩)
      simp only [Ab.lamDefs, List.mem_cons, List.not_mem_nil, or_false] at hd
      subst hd <;> simp [Sit.tf]
