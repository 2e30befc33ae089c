import PyProof.Rows.All
import Wide.All
import OpenK.AllK
import Wide.FinOn
import KE.KeyNested
import HandS.ForMost
import HandS.ForExc
import KE.SortData
import HandS.HeadHook1
import HandS.HeadHook2
import HandS.Lambda
import HandS.ExcInit
import HandS.Wide
import HandS.TupAny
import HandS.TupMul
import HandS.Star
import HandS.IsInst
import HandS.More
import HandS.Deep
import HandS.Text
import HandS.Zip
import KE.GoesEnum
import KE.GoesNew
import HandS.Comp
import HandS.Style
import HandS.CallSlots
import HandS.DictComp
import KE.DataCmp
import KE.DataMinMax
import HandS.SortInts
import HandS.Conv
import KE.KTupSum
import HandS.HeadEnd
import HandS.Head2
import HandS.HeadHook3
import KE.KDictKeyed
import KE.KDictPairs
import KE.KDictWalk
import KE.KDictSum
import KE.GoesDict
import PyProof.DictCompW
import KE.KIndexOf
import PyProof.FactsAll.tuple_2
import HandS.ExcField
import HandS.Nested
import KE.KExcSuper
import KE.KSuper
import HandS.HeadHook4
import HandS.EndTab
import HandS.NestedK
import HandS.HeadWalk
import KE.SortKeyHeap
import HandS.ListItems
import KE.KDictItemsList
import KE.KDictDisplayH
import HandS.TupLen
import HandS.TryOnly
import HandS.Iter
import HandS.RaiseMore
import HandS.TryMany
import PyProof.StrOps2
import KE.KDflt
import HandS.ExcIs
import KE.KExcIs
import KE.GoesMore
import PySem.Challenge.RW_answerrooms_k37_errors_by_hand
set_option Elab.async false
set_option linter.all false
set_option maxRecDepth 100000
set_option maxHeartbeats 0
set_option autoImplicit false
namespace DL
open PySem PySem.Spec PyProof.Rows L2
abbrev W := PyData
abbrev CA := List (List Addr)
/-- a frozen list: one that nobody writes any more, or one of the written part -/
def FzL (K : PySem.W.Frag) (H : Hp) (a : Addr) (vs : List V) : Prop := (∃ o, H a = some (.frz o (.lst vs))) ∨
  ∃ (its : Array Value) (n : Nat), K.lookup a = some { cls := .type "list", data := .seq its n } ∧ its.size ≤ sizeLine ∧ Vals vs its.toList
/-- a tuple; its object is known (it has no dict of its own: its methods are the class's) -/
def FzT (K : PySem.W.Frag) (H : Hp) (a : Addr) (vs : List V) : Prop :=
  (∃ o : Obj, H a = some (.frz o (.tup vs)) ∧ o.dict = none) ∨ ∃ (o : Obj) (its : Array Value) (n : Nat), K.lookup a = some o ∧ o.cls = .type "tuple" ∧ o.dict = none ∧ o.data = .seq its n ∧ its.size ≤ sizeLine ∧ Vals vs its.toList
/-- the key of a frozen dict of flat keys, as data -/
def kW : Key → W
  | .inl i => .int i
  | .inr s => .str s
/-- a dict of flat keys, frozen -/
def FzD (K : PySem.W.Frag) (H : Hp) (a : Addr) (kvs : List (Key × V)) : Prop := ∃ o, H a = some (.frz o (.dK kvs))
mutual
def nkey : W → Option NestedKey
  | .none => some .none
  | .bool _ => none
  | .int i => some (.num i)
  | .str _ => none
  | .list _ => none
  | .tuple xs => (nkeys xs).map NestedKey.tup
  | .dict _ => none
def nkeys : List W → Option (List NestedKey)
  | [] => some []
  | x :: xs => match nkey x, nkeys xs with
    | some k, some ks => some (k :: ks)
    | _, _ => none
end
mutual
def nhash : NestedKey → Int
  | .none => reduceHash 0xFCA86420
  | .num i => hashInt i
  | .text _ => 0
  | .tup ks => reduceHash (Builtin.Tuple.tupleHashOf (nhashes ks))
def nhashes : List NestedKey → List Int
  | [] => []
  | k :: ks => nhash k :: nhashes ks
end
mutual
theorem nhash_eq (w : World) : ∀ (x : W) {k : NestedKey}, nkey x = some k → NestedKey.hash w k = nhash k
  | .none, k, h => by cases h; rfl
  | .bool _, k, h => by cases h
  | .int _, k, h => by cases h; rfl
  | .str _, k, h => by cases h
  | .list _, k, h => by cases h
  | .dict _, k, h => by cases h
  | .tuple xs, k, h => by
    simp only [nkey, Option.map_eq_some_iff] at h
    obtain ⟨ks, h, rfl⟩ := h
    simp only [NestedKey.hash, nhash, nhashes_eq w xs h]
theorem nhashes_eq (w : World) : ∀ (xs : List W) {ks : List NestedKey}, nkeys xs = some ks → NestedKey.hashes w ks = nhashes ks
  | [], ks, h => by cases h; rfl
  | x :: xs, ks, h => by
    simp only [nkeys] at h
    cases e1 : nkey x with
    | none => rw [e1] at h; cases h
    | some k =>
      cases e2 : nkeys xs with
      | none => rw [e1, e2] at h; cases h
      | some l =>
        rw [e1, e2] at h
        cases h
        simp only [NestedKey.hashes, nhashes, nhash_eq w x e1, nhashes_eq w xs e2]
end
abbrev NE := NestedKey × Addr × Value
/-- at p: a dict with these entries, keys at these places -/
def DX (p : Addr) (xs : List NE) : HO := .ext fun h => ∃ o es ep, h.get? p = some o ∧ o.ExactDict ∧ o.data = .dict es ep ∧ es.toList = xs.map fun x => ⟨nhash x.1, .ref x.2.1, x.2.2⟩
/-- a dict of tuple keys, frozen -/
def FzX (H : Hp) (a : Addr) (xs : List NE) : Prop := (a == sysModules) = false ∧ xs.length ≤ sizeLine ∧ (xs.map (·.1)).Nodup ∧ ∃ o, H a = some (.frz o (.frz o (DX a xs)))
mutual
/-- the value v stands for the data w -/
def Rp (K : PySem.W.Frag) (ca : CA) (H : Hp) : W → V → Prop
  | .none, v => v = .non
  | .bool b, v => v = .bl b
  | .int i, v => v = .int i
  | .str s, v => v = .str s
  | .list xs, v => ∃ a vs, v = .ref a ∧ FzL K H a vs ∧ RpAll K ca H xs vs
  | .tuple xs, v => ∃ a vs, v = .ref a ∧ FzT K H a vs ∧ RpAll K ca H xs vs
  | .dict kvs, v => (∃ k : Nat, ∃ a as, kvs = [(.none, .int k)] ∧ ca[k]? = some (a :: as) ∧ v = .ref a) ∨
      (∃ a ps, v = .ref a ∧ FzD K H a ps ∧ RpKv K ca H kvs ps) ∨ RpX K ca H kvs v
/-- a dict of tuple keys: its data begins with a mark -/
def RpX (K : PySem.W.Frag) (ca : CA) (H : Hp) : List (W × W) → V → Prop
  | [], _ => False
  | (m, _) :: r, v => m = .bool true ∧ ∃ a xs, v = .ref a ∧ FzX H a xs ∧ RpN K ca H r xs
def RpN (K : PySem.W.Frag) (ca : CA) (H : Hp) : List (W × W) → List NE → Prop
  | [], xs => xs = []
  | (k, x) :: r, xs => ∃ q b u v t, xs = (q, b, u) :: t ∧ nkey k = some q ∧ q.depth ≤ 8 ∧ Rp K ca H k (.ref b) ∧ RelV v u ∧ Rp K ca H x v ∧ RpN K ca H r t
def RpAll (K : PySem.W.Frag) (ca : CA) (H : Hp) : List W → List V → Prop
  | [], vs => vs = []
  | x :: xs, vs => ∃ v r, vs = v :: r ∧ Rp K ca H x v ∧ RpAll K ca H xs r
def RpKv (K : PySem.W.Frag) (ca : CA) (H : Hp) : List (W × W) → List (Key × V) → Prop
  | [], ps => ps = []
  | (k, x) :: xs, ps => ∃ q v r, ps = (q, v) :: r ∧ k = kW q ∧ Rp K ca H x v ∧ RpKv K ca H xs r
end
/-- what never changes is kept -/
structure Kp (H H' : Hp) : Prop where
  tup : ∀ b xs, H b = some (.tup xs) → H' b = some (.tup xs)
  frz : ∀ b o u, H b = some (.frz o u) → H' b = some (.frz o u)
theorem Kp.refl (H : Hp) : Kp H H := ⟨fun _ _ h => h, fun _ _ _ h => h⟩
theorem Kp.trans {H H1 H2 : Hp} (a : Kp H H1) (b : Kp H1 H2) : Kp H H2 := ⟨fun c xs h => b.tup c xs (a.tup c xs h), fun c o u h => b.frz c o u (a.frz c o u h)⟩
theorem Kp.of_same {H H' : Hp} (a : Same H H') : Kp H H' := ⟨fun b xs h => a b _ h, fun b o u h => a b _ h⟩
theorem Kp.upd_new {H : Hp} {p : Addr} {o : HO} (h : H p = none) : Kp H (upd H p o) := .of_same fun b u e => by rw [upd_ne (ne_of_none e h)]; exact e
theorem Same.upd_new {H : Hp} {p : Addr} {o : HO} (h : H p = none) : Same H (upd H p o) := fun b u e => by rw [upd_ne (ne_of_none e h)]; exact e
structure Ext (ca : CA) (H : Hp) (ca' : CA) (H' : Hp) : Prop where
  kp : Kp H H'
  pre : ca <+: ca'
theorem Ext.refl (ca : CA) (H : Hp) : Ext ca H ca H := ⟨.refl H, List.prefix_refl ca⟩
theorem Ext.trans {ca ca1 ca2 : CA} {H H1 H2 : Hp} (a : Ext ca H ca1 H1) (b : Ext ca1 H1 ca2 H2) : Ext ca H ca2 H2 := ⟨a.kp.trans b.kp, a.pre.trans b.pre⟩
theorem Ext.of_same {ca : CA} {H H' : Hp} (a : Same H H') : Ext ca H ca H' := ⟨.of_same a, List.prefix_refl ca⟩
theorem FzL.mono {K : PySem.W.Frag} {H H' : Hp} {a : Addr} {vs : List V} (k : Kp H H') (h : FzL K H a vs) : FzL K H' a vs := by
  rcases h with ⟨o, h⟩ | h
  · exact .inl ⟨o, k.frz _ _ _ h⟩
  · exact .inr h
theorem FzT.mono {K : PySem.W.Frag} {H H' : Hp} {a : Addr} {vs : List V} (k : Kp H H') (h : FzT K H a vs) : FzT K H' a vs := by
  rcases h with ⟨o, h, hd⟩ | h
  · exact .inl ⟨o, k.frz _ _ _ h, hd⟩
  · exact .inr h
theorem FzD.mono {K : PySem.W.Frag} {H H' : Hp} {a : Addr} {vs : List (Key × V)} (k : Kp H H') (h : FzD K H a vs) : FzD K H' a vs :=
  let ⟨o, h⟩ := h; ⟨o, k.frz _ _ _ h⟩
theorem FzX.mono {H H' : Hp} {a : Addr} {xs : List NE} (k : Kp H H') (h : FzX H a xs) : FzX H' a xs :=
  let ⟨h1, h2, h3, o, h⟩ := h; ⟨h1, h2, h3, o, k.frz _ _ _ h⟩
theorem FzL.sq {K : PySem.W.Frag} {H : Hp} {a : Addr} {vs : List V} (h : FzL K H a vs) : SqL K H a vs := by
  rcases h with ⟨o, h⟩ | ⟨its, n, h1, h2, h3⟩
  · exact .inl (.inr ⟨o, h⟩)
  · exact .inr ⟨_, its, n, h1, rfl, rfl, rfl, h2, h3⟩
theorem FzT.sq {K : PySem.W.Frag} {H : Hp} {a : Addr} {vs : List V} (h : FzT K H a vs) : SqT K H a vs := by
  rcases h with ⟨o, h, _⟩ | ⟨o, its, n, h1, h2, h3, h4, h5⟩
  · exact .inl (.inr ⟨o, h⟩)
  · exact .inr ⟨o, its, n, h1, h2, h4, h5⟩
theorem pre_get {ca ca' : CA} (h : ca <+: ca') {k : Nat} {x : List Addr} (e : ca[k]? = some x) : ca'[k]? = some x := by
  obtain ⟨t, rfl⟩ := h
  have hk : k < ca.length := by
    rcases Nat.lt_or_ge k ca.length with h | h
    · exact h
    · rw [List.getElem?_eq_none h] at e; cases e
  rw [List.getElem?_append_left hk]; exact e
mutual
theorem Rp.mono {K : PySem.W.Frag} {ca ca' : CA} {H H' : Hp} (x : Ext ca H ca' H') : ∀ (w : W) (v : V), Rp K ca H w v → Rp K ca' H' w v
  | .none, v, h => by simpa only [Rp] using h
  | .bool b, v, h => by simpa only [Rp] using h
  | .int b, v, h => by simpa only [Rp] using h
  | .str b, v, h => by simpa only [Rp] using h
  | .list xs, v, h => by
    simp only [Rp] at h ⊢
    obtain ⟨a, vs, e, f, r⟩ := h
    exact ⟨a, vs, e, f.mono x.kp, RpAll.mono x xs vs r⟩
  | .tuple xs, v, h => by
    simp only [Rp] at h ⊢
    obtain ⟨a, vs, e, f, r⟩ := h
    exact ⟨a, vs, e, f.mono x.kp, RpAll.mono x xs vs r⟩
  | .dict kvs, v, h => by
    simp only [Rp] at h ⊢
    rcases h with ⟨k, a, as, e1, e2, e3⟩ | ⟨a, ps, e, f, r⟩ | h
    · exact .inl ⟨k, a, as, e1, pre_get x.pre e2, e3⟩
    · exact .inr (.inl ⟨a, ps, e, f.mono x.kp, RpKv.mono x kvs ps r⟩)
    · exact .inr (.inr (RpX.mono x kvs v h))
theorem RpX.mono {K : PySem.W.Frag} {ca ca' : CA} {H H' : Hp} (x : Ext ca H ca' H') : ∀ (xs : List (W × W)) (v : V), RpX K ca H xs v → RpX K ca' H' xs v
  | [], v, h => by simp only [RpX] at h
  | (m, y) :: r, v, h => by
    simp only [RpX] at h ⊢
    obtain ⟨e, a, ys, ev, f, h⟩ := h
    exact ⟨e, a, ys, ev, f.mono x.kp, RpN.mono x r ys h⟩
theorem RpN.mono {K : PySem.W.Frag} {ca ca' : CA} {H H' : Hp} (x : Ext ca H ca' H') : ∀ (xs : List (W × W)) (ys : List NE), RpN K ca H xs ys → RpN K ca' H' xs ys
  | [], ys, h => by simpa only [RpN] using h
  | (k, y) :: r, ys, h => by
    simp only [RpN] at h ⊢
    obtain ⟨q, b, u, v, t, e, h1, h2, h3, h4, h5, h6⟩ := h
    exact ⟨q, b, u, v, t, e, h1, h2, Rp.mono x _ _ h3, h4, Rp.mono x _ _ h5, RpN.mono x _ _ h6⟩
theorem RpAll.mono {K : PySem.W.Frag} {ca ca' : CA} {H H' : Hp} (x : Ext ca H ca' H') : ∀ (xs : List W) (vs : List V), RpAll K ca H xs vs → RpAll K ca' H' xs vs
  | [], vs, h => by simpa only [RpAll] using h
  | y :: ys, vs, h => by
    simp only [RpAll] at h ⊢
    obtain ⟨v, r, e, h1, h2⟩ := h
    exact ⟨v, r, e, Rp.mono x y v h1, RpAll.mono x ys r h2⟩
theorem RpKv.mono {K : PySem.W.Frag} {ca ca' : CA} {H H' : Hp} (x : Ext ca H ca' H') : ∀ (xs : List (W × W)) (vs : List (Key × V)), RpKv K ca H xs vs → RpKv K ca' H' xs vs
  | [], vs, h => by simpa only [RpKv] using h
  | (k, y) :: ys, vs, h => by
    simp only [RpKv] at h ⊢
    obtain ⟨q, v, r, e, ek, h1, h2⟩ := h
    exact ⟨q, v, r, e, ek, Rp.mono x y v h1, RpKv.mono x ys r h2⟩
end
theorem RpX.inv {K : PySem.W.Frag} {ca : CA} {H : Hp} {kvs : List (W × W)} {v : V} (h : RpX K ca H kvs v) : ∃ m r a xs, kvs = (.bool true, m) :: r ∧ v = .ref a ∧ FzX H a xs ∧ RpN K ca H r xs := by
  cases kvs with
  | nil => simp only [RpX] at h
  | cons p r =>
    obtain ⟨k, m⟩ := p
    simp only [RpX] at h
    obtain ⟨rfl, a, xs, e, f, h⟩ := h
    exact ⟨m, r, a, xs, rfl, e, f, h⟩
end DL
namespace DL
open PySem PySem.Spec PyProof.Rows L2
/-- a slot: a thing that stays as it is; a list, a dict of this def's own that it still changes -/
inductive Sl where
  | fz (w : W)
  | ow (xs : List W)
  | od (kvs : List (W × W))
  | on (kvs : List (W × W))
  | pin (k : Nat)
/-- a thing that several defs may change -/
inductive Cell where
  | draw (cs ls : List Int) (at_ room : Int)
  | inst (c : Str) (fs : List (Str × W))
  | lst (xs : List W)
  | dct (kvs : List (W × W))
  | exc (c : Str) (fs : List (Str × W))
structure MS where
  env : List (Option Sl)
  cells : List Cell
inductive R (α : Type) where
  | ok (a : α) (m : MS)
  | err (c : Str) (fs : List (Str × W)) (m : MS)
  | bad
def R.bind {α β : Type} (r : R α) (f : α → MS → R β) : R β :=
  match r with
  | .ok a m => f a m
  | .err c fs m => .err c fs m
  | .bad => .bad
abbrev EM := MS → R W
abbrev TM := MS → R Bool
inductive Fl where
  | next | ret (w : W) | brk | cont
abbrev SM := MS → R Fl
structure DC where
  K : PySem.W.Frag
  H0 : Hp
  ca0 : CA
  sx : Bool × List (Addr × Str)
  pins : Nat → Option V
/-- may it draw; the tables of code objects of the defs with lambdas -/
abbrev DC.st (D : DC) : Bool := D.sx.1
def RpFs (K : PySem.W.Frag) (ca : CA) (H : Hp) : List (Str × W) → List (Str × V) → Prop
  | [], ps => ps = []
  | (k, x) :: xs, ps => ∃ v r, ps = (k, v) :: r ∧ Rp K ca H x v ∧ RpFs K ca H xs r
theorem RpFs.mono {K : PySem.W.Frag} {ca ca' : CA} {H H' : Hp} (x : Ext ca H ca' H') : ∀ (xs : List (Str × W)) (vs : List (Str × V)), RpFs K ca H xs vs → RpFs K ca' H' xs vs
  | [], vs, h => by simpa only [RpFs] using h
  | (k, y) :: ys, vs, h => by
    simp only [RpFs] at h ⊢
    obtain ⟨v, r, e, h1, h2⟩ := h
    exact ⟨v, r, e, Rp.mono x y v h1, RpFs.mono x ys r h2⟩
/-- an exception: its class, its dict -/
def exw (e C : Addr) (d : Option Addr) : HO := .ext fun h => ∃ (oe : Obj) (vs : Array Value), h.get? e = some oe ∧ oe.cls = .ref C ∧ oe.dict = d ∧ oe.data = .fields vs
theorem exw_tup {e C : Addr} {d : Option Addr} {xs : List V} : exw e C d ≠ .tup xs := fun z => by unfold exw at z; cases z
theorem exw_frz {e C : Addr} {d : Option Addr} {o : Obj} {u : HO} : exw e C d ≠ .frz o u := fun z => by unfold exw at z; cases z
theorem exw_tbl {e C : Addr} {d : Option Addr} {ps : Array Value} : exw e C d ≠ .tbl ps := fun z => by unfold exw at z; cases z
theorem exw_ok {P : Program} {w : World} {H : Hp} {h : Heap} {e C : Addr} {d : Option Addr} {oe : Obj} {vs : Array Value} (he : h.get? e = some oe) (hc : oe.cls = .ref C) (hd : oe.dict = d) (hv : oe.data = .fields vs) : ObjOk P w H h e (exw e C d) :=
  ⟨⟨oe, vs, he, hc, hd, hv⟩, ⟨_, he⟩, fun h1 h2 z k => by
    obtain ⟨o, us, q, r⟩ := z
    exact ⟨o, us, k _ q, r⟩⟩
theorem exw_at {P : Program} {w : World} {H : Hp} {h : Heap} {e C : Addr} {d : Option Addr} (hok : HOk P w H h) (he : H e = some (exw e C d)) : ∃ (oe : Obj) (vs : Array Value), h.get? e = some oe ∧ oe.cls = .ref C ∧ oe.dict = d ∧ oe.data = .fields vs := (hok e _ he).1
def CellAt (K : PySem.W.Frag) (ca : CA) (H : Hp) : Cell → List Addr → Prop
  | .draw cs ls a r, as => ∃ s c l, as = [s, c, l] ∧ H s = some (.dK [(Sum.inr "cells", .ref c), (Sum.inr "lefts", .ref l), (Sum.inr "at", .int a), (Sum.inr "room", .int r)]) ∧ H c = some (.lst (cs.map V.int)) ∧ H l = some (.lst (ls.map V.int))
  | .inst c fs, as => ∃ x dx fs', as = [x, dx] ∧ H x = some (.ins (He.ga K c) dx fs') ∧ H dx = some (.own x) ∧ RpFs K ca H fs fs'
  | .lst xs, as => ∃ p vs, as = [p] ∧ H p = some (.lst vs) ∧ RpAll K ca H xs vs
  | .dct kvs, as => ∃ p ps, as = [p] ∧ H p = some (.dK ps) ∧ RpKv K ca H kvs ps
  | .exc c fs, as => ∃ x dx fs', as = [x, dx] ∧ H x = some (exw x (He.ga K c) (some dx)) ∧ H dx = some (.xd fs') ∧ RpFs K ca H fs fs'
def NestAt (K : PySem.W.Frag) (ca : CA) (H : Hp) (p : Addr) (kvs : List (W × W)) : Prop := (p == sysModules) = false ∧ kvs.length ≤ sizeLine ∧ ∃ xs : List NE, H p = some (DX p xs) ∧ (xs.map (·.1)).Nodup ∧ RpN K ca H kvs xs
theorem NestAt.mono {K : PySem.W.Frag} {ca ca' : CA} {H H' : Hp} {p : Addr} {kvs : List (W × W)} (x : Ext ca H ca' H') (g : ∀ o, H p = some o → H' p = some o) : NestAt K ca H p kvs → NestAt K ca' H' p kvs
  | ⟨h1, h2, xs, h3, h4, h5⟩ => ⟨h1, h2, xs, g _ h3, h4, RpN.mono x _ _ h5⟩
/-- an own list | dict at p -/
def OwnAt (K : PySem.W.Frag) (ca : CA) (H : Hp) (p : Addr) : Sl → Prop
  | .fz _ => False
  | .ow xs => ∃ vs, H p = some (.lst vs) ∧ RpAll K ca H xs vs
  | .od kvs => ∃ ps, H p = some (.dK ps) ∧ RpKv K ca H kvs ps
  | .on kvs => NestAt K ca H p kvs
  | .pin _ => False
def SlAt (D : DC) (ca : CA) (H : Hp) (v : V) : Sl → Prop
  | .fz w => Rp D.K ca H w v
  | .ow xs => ∃ p, v = .ref p ∧ D.H0 p = none ∧ OwnAt D.K ca H p (.ow xs)
  | .od kvs => ∃ p, v = .ref p ∧ D.H0 p = none ∧ OwnAt D.K ca H p (.od kvs)
  | .on kvs => ∃ p, v = .ref p ∧ D.H0 p = none ∧ OwnAt D.K ca H p (.on kvs)
  | .pin k => D.pins k = some v
def Sl.isOwn : Option (Option Sl) → Bool
  | some (some (.ow _)) => true
  | some (some (.od _)) => true
  | some (some (.on _)) => true
  | _ => false
theorem tabs_upd {T : List (Addr × Str)} {H : Hp} {p : Addr} {o o' : HO} (t : LamX.Tabs T H) (hp : H p = some o) (h1 : ∀ ps, o ≠ .tbl ps) (h2 : ∀ q, o ≠ LamX.CodeO p q) : LamX.Tabs T (upd H p o') := fun x hx => by
  obtain ⟨ps, e1, e2, e3⟩ := t x hx
  refine ⟨ps, by rw [upd_ne (fun z => by rw [z, hp] at e1; exact h1 ps (Option.some.inj e1))]; exact e1, e2, fun pos cv hc => ?_⟩
  obtain ⟨c, e4, e5⟩ := e3 pos cv hc
  exact ⟨c, e4, by rw [upd_ne (fun z => by subst z; rw [hp] at e5; exact h2 _ (Option.some.inj e5))]; exact e5⟩
/-- a heap with one object at p -/
def heapAt (p : Addr) (o : Obj) : Heap := { objs := (Array.replicate p default).push o }
theorem heapAt_get {p : Addr} {o : Obj} (h : o.data ≠ .freed) : (heapAt p o).get? p = some o := by
  unfold Heap.get? heapAt
  have e : ((Array.replicate p default).push o)[p]? = some o := by
    have := Array.getElem?_push_size (xs := Array.replicate p (default : Obj)) (x := o)
    rw [Array.size_replicate] at this
    exact this
  simp only [e]
  obtain ⟨a, b, c, d⟩ := o
  cases c <;> first | rfl | exact absurd rfl h
theorem dx_code (p : Addr) (xs : List NE) (q : Str) : DX p xs ≠ LamX.CodeO p q := fun z => by
  unfold DX LamX.CodeO at z
  injection z with z
  have h := congrFun z (heapAt p { cls := .type "dict", data := .dict (xs.map fun x => (⟨nhash x.1, .ref x.2.1, x.2.2⟩ : DictEntry)).toArray 0 })
  have hg := heapAt_get (p := p) (o := { cls := .type "dict", data := .dict (xs.map fun x => (⟨nhash x.1, .ref x.2.1, x.2.2⟩ : DictEntry)).toArray 0 }) (by intro z; cases z)
  obtain ⟨oc, vs, t, e1, e2, _⟩ := h.mp ⟨_, _, _, hg, ⟨rfl, rfl, rfl⟩, rfl, by simp⟩
  rw [hg] at e1
  cases e1
  cases e2
/-- a thing that is written: no table, no code object -/
def NoTab (p : Addr) (o : HO) : Prop := (∀ ps, o ≠ .tbl ps) ∧ ∀ q, o ≠ LamX.CodeO p q
theorem NoTab.lst {p : Addr} {xs : List V} : NoTab p (.lst xs) := ⟨fun ps z => (by cases z), fun q z => by unfold LamX.CodeO at z; cases z⟩
theorem NoTab.dK {p : Addr} {xs : List (Key × V)} : NoTab p (.dK xs) := ⟨fun ps z => (by cases z), fun q z => by unfold LamX.CodeO at z; cases z⟩
theorem NoTab.dx {p : Addr} {xs : List NE} : NoTab p (DX p xs) := ⟨fun ps z => (by unfold DX at z; cases z), dx_code p xs⟩
theorem NoTab.ins {p C d : Addr} {fs : List (Str × V)} : NoTab p (.ins C d fs) := ⟨fun ps z => (by cases z), fun q z => by unfold LamX.CodeO at z; cases z⟩
theorem exw_code (p C : Addr) (d : Option Addr) (q : Str) : exw p C d ≠ LamX.CodeO p q := fun z => by
  unfold exw LamX.CodeO at z
  injection z with z
  have h := congrFun z (heapAt p { cls := .ref C, dict := d, data := .fields #[.ref 0, .none, .none, .none, .bool false, .none] })
  have hg := heapAt_get (p := p) (o := { cls := .ref C, dict := d, data := .fields #[.ref 0, .none, .none, .none, .bool false, .none] }) (by intro z; cases z)
  obtain ⟨oc, vs, t, e1, e2, e3⟩ := h.mp ⟨_, _, hg, rfl, rfl, rfl⟩
  rw [hg] at e1
  cases e1
  cases e2
  cases e3
theorem NoTab.exw {p C : Addr} {d : Option Addr} : NoTab p (exw p C d) := ⟨fun ps => exw_tbl, exw_code p C d⟩
theorem NoTab.xd {p : Addr} {fs : List (Str × V)} : NoTab p (.xd fs) := ⟨fun ps z => (by cases z), fun q z => by unfold LamX.CodeO at z; cases z⟩
theorem NoTab.own {p x : Addr} : NoTab p (.own x) := ⟨fun ps z => (by cases z), fun q z => by unfold LamX.CodeO at z; cases z⟩
theorem NoTab.frz {p : Addr} {o : Obj} {u : HO} : NoTab p (.frz o u) := ⟨fun ps z => (by cases z), fun q z => by unfold LamX.CodeO at z; cases z⟩
theorem NoTab.tup {p : Addr} {xs : List V} : NoTab p (.tup xs) := ⟨fun ps z => (by cases z), fun q z => by unfold LamX.CodeO at z; cases z⟩
theorem nt_lst {xs : List V} (ps : Array Value) : HO.lst xs ≠ .tbl ps := fun z => by cases z
theorem nt_dK {xs : List (Key × V)} (ps : Array Value) : HO.dK xs ≠ .tbl ps := fun z => by cases z
structure Rel (D : DC) (ca : CA) (σ : L2.St) (H : Hp) (ms : MS) : Prop where
  len : if D.st = true then ms.cells.length = ca.length else ms.cells = [] ∧ ca = D.ca0
  cells : ∀ (k : Nat) (c : Cell) (as : List Addr), ms.cells[k]? = some c → ca[k]? = some as → CellAt D.K ca H c as
  nd : ca.flatten.Nodup
  pre : D.ca0 <+: ca
  fr : ∀ b o, D.H0 b = some o → (∀ ps, o ≠ .tbl ps) → (D.st = true → b ∉ D.ca0.flatten) → H b = some o
  new : ∀ b, b ∈ (ca.drop D.ca0.length).flatten → D.H0 b = none
  slen : ms.env.length = σ.length
  slots : ∀ (i : Nat) (x : Sl), ms.env[i]? = some (some x) → ∃ v, σ[i]? = some (some v) ∧ SlAt D ca H v x
  sep : ∀ (i j : Nat) (v : V), i ≠ j → Sl.isOwn ms.env[i]? = true → Sl.isOwn ms.env[j]? = true → σ[i]? = some (some v) → σ[j]? ≠ some (some v)
  c0 : ∀ b, b ∈ D.ca0.flatten → ∃ o, D.H0 b = some o ∧ ∀ ps, o ≠ .tbl ps
  oca : ∀ (i : Nat) (p : Addr), Sl.isOwn ms.env[i]? = true → σ[i]? = some (some (.ref p)) → p ∉ ca.flatten
  tb : LamX.Tabs D.sx.2 H
  fb : ∀ b ps, D.H0 b = some (.tbl ps) → ∃ q, (b, q) ∈ D.sx.2
theorem CellAt.grow {K : PySem.W.Frag} {ca : CA} {H H' : Hp} (g : Same H H') : ∀ {c : Cell} {as : List Addr}, CellAt K ca H c as → CellAt K ca H' c as
  | .draw _ _ _ _, _, ⟨s, c, l, e, h1, h2, h3⟩ => ⟨s, c, l, e, g _ _ h1, g _ _ h2, g _ _ h3⟩
  | .inst _ _, _, ⟨x, dx, fs', e, h1, h2, h3⟩ => ⟨x, dx, fs', e, g _ _ h1, g _ _ h2, RpFs.mono (.of_same g) _ _ h3⟩
  | .lst _, _, ⟨p, vs, e, h1, h2⟩ => ⟨p, vs, e, g _ _ h1, RpAll.mono (.of_same g) _ _ h2⟩
  | .dct _, _, ⟨p, ps, e, h1, h2⟩ => ⟨p, ps, e, g _ _ h1, RpKv.mono (.of_same g) _ _ h2⟩
  | .exc _ _, _, ⟨x, dx, fs', e, h1, h2, h3⟩ => ⟨x, dx, fs', e, g _ _ h1, g _ _ h2, RpFs.mono (.of_same g) _ _ h3⟩
theorem SlAt.grow {D : DC} {ca : CA} {H H' : Hp} {v : V} (g : Same H H') : ∀ {x : Sl}, SlAt D ca H v x → SlAt D ca H' v x
  | .fz w, h => Rp.mono (.of_same g) _ _ h
  | .ow xs, ⟨p, e, h0, vs, h2, h3⟩ => ⟨p, e, h0, vs, g _ _ h2, RpAll.mono (.of_same g) _ _ h3⟩
  | .od xs, ⟨p, e, h0, vs, h2, h3⟩ => ⟨p, e, h0, vs, g _ _ h2, RpKv.mono (.of_same g) _ _ h3⟩
  | .on xs, ⟨p, e, h0, h⟩ => ⟨p, e, h0, NestAt.mono (.of_same g) (g _) h⟩
  | .pin _, h => h
theorem Rel.grow {D : DC} {ca : CA} {σ : L2.St} {H H' : Hp} {ms : MS} (r : Rel D ca σ H ms) (g : Same H H') : Rel D ca σ H' ms :=
  ⟨r.len, fun k c as h1 h2 => (r.cells k c as h1 h2).grow g, r.nd, r.pre, fun b o h1 hz h2 => g _ _ (r.fr b o h1 hz h2), r.new, r.slen,
    fun i x h => let ⟨v, e, q⟩ := r.slots i x h; ⟨v, e, q.grow g⟩, r.sep, r.c0, r.oca, r.tb.ext g, r.fb⟩
/-- an exception's own dict -/
def ErrAt (K : PySem.W.Frag) (ca : CA) (H : Hp) (c : Str) (fs : List (Str × W)) (cls : Value) (d : Option Addr) : Prop :=
  cls = .ref (He.ga K c) ∧ ∃ dd fs', d = some dd ∧ H dd = some (.xd fs') ∧ RpFs K ca H fs fs'
def Po (D : DC) (Wx : WX) (σ : L2.St) (ca : CA) (H : Hp) {α : Type} (r : R α) (P : α → MS → Prop) : Prop :=
  match r with
  | .ok a ms => P a ms
  | .err c fs ms => ∀ cls d σ' ca' H', Ext ca H ca' H' → Rel D ca' σ' H' ms → ErrAt D.K ca' H' c fs cls d → Wx cls d σ' H'
  | .bad => False
theorem Po.imp {D : DC} {Wx : WX} {σ : L2.St} {ca : CA} {H : Hp} {α : Type} {r : R α} {P P' : α → MS → Prop} (h : Po D Wx σ ca H r P) (f : ∀ a m, P a m → P' a m) : Po D Wx σ ca H r P' := by
  cases r with
  | ok a m => exact f a m h
  | err c fs m => exact h
  | bad => exact h
theorem Po.ext {D : DC} {Wx : WX} {σ : L2.St} {ca ca1 : CA} {H H1 : Hp} {α : Type} {r : R α} {P : α → MS → Prop} (x : Ext ca H ca1 H1) (h : Po D Wx σ ca H r P) : Po D Wx σ ca1 H1 r P := by
  cases r with
  | ok a m => exact h
  | err c fs m => exact fun cls d σ' ca' H' x' rl e => h cls d σ' ca' H' (x.trans x') rl e
  | bad => exact h
/-- what is wanted behind an expression -/
def EQ (D : DC) (σ : L2.St) (ca : CA) (H : Hp) (Q : VK) (w : W) (ms' : MS) : Prop := ∀ v ca' H', Ext ca H ca' H' → Rel D ca' σ H' ms' → Rp D.K ca' H' w v → Q v H'
def RdE (D : DC) (Wx : WX) (m : EM) : TE := fun σ H Q => ∃ ca ms, Rel D ca σ H ms ∧ Po D Wx σ ca H (m ms) (EQ D σ ca H Q)
def RdT (D : DC) (Wx : WX) (m : TM) : TT := fun σ H Q => ∃ ca ms, Rel D ca σ H ms ∧ Po D Wx σ ca H (m ms) (fun b ms' => ∀ ca' H', Ext ca H ca' H' → Rel D ca' σ H' ms' → Q b H')
def RdS (D : DC) (Wx : WX) (m : SM) : TS := fun Q σ H => ∃ ca ms, Rel D ca σ H ms ∧ Po D Wx σ ca H (m ms) (fun f ms' => match f with
  | .next => ∀ σ' ca' H', Ext ca H ca' H' → Rel D ca' σ' H' ms' → Q.nx σ' H'
  | .brk => ∀ σ' ca' H', Ext ca H ca' H' → Rel D ca' σ' H' ms' → Q.bk σ' H'
  | .cont => ∀ σ' ca' H', Ext ca H ca' H' → Rel D ca' σ' H' ms' → Q.ct σ' H'
  | .ret w => ∀ v σ' ca' H', Ext ca H ca' H' → Rel D ca' σ' H' ms' → Rp D.K ca' H' w v → Q.rt v H')
def DE (D : DC) (Wx : WX) (X : Cx) (e : Expr) (m : EM) : Prop := PE X e (RdE D Wx m)
def DT (D : DC) (Wx : WX) (X : Cx) (e : Expr) (m : TM) : Prop := PT X e (RdT D Wx m)
def DS (D : DC) (Wx : WX) (X : Cx) (e : Stmt) (m : SM) : Prop := PS X e (RdS D Wx m)
def DSs (D : DC) (Wx : WX) (X : Cx) (e : List Stmt) (m : SM) : Prop := PSs X e (RdS D Wx m)
theorem PE.mono {X : Cx} {e : Expr} {t t' : TE} (h : PE X e t) (f : ∀ σ H Q, t' σ H Q → t σ H Q) : PE X e t' := ⟨fun pins s σ H Q I hw => h.run pins s σ H Q I (f σ H Q hw)⟩
theorem PT.mono {X : Cx} {e : Expr} {t t' : TT} (h : PT X e t) (f : ∀ σ H Q, t' σ H Q → t σ H Q) : PT X e t' := ⟨fun pins s σ H Q I hw => h.run pins s σ H Q I (f σ H Q hw)⟩
theorem PW.mono {X : Cx} {e : Expr} {t t' : TT} (h : PW X e t) (f : ∀ σ H Q, t' σ H Q → t σ H Q) : PW X e t' := ⟨fun wh pins s σ H Q I hw => h.run wh pins s σ H Q I (f σ H Q hw)⟩
theorem PS.mono {X : Cx} {e : Stmt} {t t' : TS} (h : PS X e t) (f : ∀ D σ H, t' D σ H → t D σ H) : PS X e t' := ⟨fun pins s σ H Q I hw => h.run pins s σ H Q I (f Q σ H hw)⟩
theorem PSs.mono {X : Cx} {e : List Stmt} {t t' : TS} (h : PSs X e t) (f : ∀ D σ H, t' D σ H → t D σ H) : PSs X e t' := ⟨fun pins s σ H Q I hw => h.run pins s σ H Q I (f Q σ H hw)⟩
theorem PA.mono {X : Cx} {e : List Expr} {t t' : TA} (h : PA X e t) (f : ∀ σ H Q, t' σ H Q → t σ H Q) : PA X e t' := ⟨fun p pins s σ H Q I hw => h.run p pins s σ H Q I (f σ H Q hw)⟩
/-- behind the first of two: what is known, and what is left -/
theorem RdE.bind {D : DC} {Wx : WX} {σ : L2.St} {ca : CA} {H : Hp} {ms : MS} {ma : EM} {β : Type} {f : W → MS → R β} {P : β → MS → Prop} {Q : VK} (r : Rel D ca σ H ms) (h : Po D Wx σ ca H ((ma ms).bind f) P)
    (q : ∀ w v ms1 ca1 H1, Ext ca H ca1 H1 → Rel D ca1 σ H1 ms1 → Rp D.K ca1 H1 w v → Po D Wx σ ca H (f w ms1) P → Q v H1) : RdE D Wx ma σ H Q := by
  refine ⟨ca, ms, r, ?_⟩
  cases e : ma ms with
  | ok w ms1 =>
    rw [e] at h
    exact fun v ca1 H1 x1 r1 p1 => q w v ms1 ca1 H1 x1 r1 p1 h
  | err c fs m =>
    rw [e] at h
    exact h
  | bad =>
    rw [e] at h
    exact h
theorem RdT.bind {D : DC} {Wx : WX} {σ : L2.St} {ca : CA} {H : Hp} {ms : MS} {ma : TM} {β : Type} {f : Bool → MS → R β} {P : β → MS → Prop} {Q : Bool → Hp → Prop} (r : Rel D ca σ H ms) (h : Po D Wx σ ca H ((ma ms).bind f) P)
    (q : ∀ b ms1 ca1 H1, Ext ca H ca1 H1 → Rel D ca1 σ H1 ms1 → Po D Wx σ ca H (f b ms1) P → Q b H1) : RdT D Wx ma σ H Q := by
  refine ⟨ca, ms, r, ?_⟩
  cases e : ma ms with
  | ok w ms1 =>
    rw [e] at h
    exact fun ca1 H1 x1 r1 => q w ms1 ca1 H1 x1 r1 h
  | err c fs m =>
    rw [e] at h
    exact h
  | bad =>
    rw [e] at h
    exact h
def eVar (i : Nat) : EM := fun m => match m.env[i]? with
  | some (some (.fz w)) => .ok w m
  | _ => .bad
theorem de_var {D : DC} {Wx : WX} {X : Cx} {i : Nat} {x : Str} {pos : Pos} (hN : X.N[i]? = some x) (hv : Vis X.env.scope x) (hd : (x == ("__debug__" : Str)) = false := by decide) (hcd : (x == ("__classdict__" : Str)) = false := by decide) : DE D Wx X (.Name x pos) (eVar i) :=
  PE.mono (pe_var hN hv hd hcd) fun σ H Q ⟨ca, ms, r, h⟩ => by
    unfold eVar at h
    cases e : ms.env[i]? with
    | none => rw [e] at h; exact h.elim
    | some o =>
      cases o with
      | none => rw [e] at h; exact h.elim
      | some x =>
        cases x with
        | fz w =>
          rw [e] at h
          obtain ⟨v, e1, q⟩ := r.slots i _ e
          exact ⟨v, e1, h v ca H (.refl _ _) r q⟩
        | ow xs => rw [e] at h; exact h.elim
        | od xs => rw [e] at h; exact h.elim
        | on xs => rw [e] at h; exact h.elim
        | pin xs => rw [e] at h; exact h.elim
def eC (w : W) : EM := fun m => .ok w m
theorem de_int {D : DC} {Wx : WX} {X : Cx} {i j pos} : DE D Wx X (.Constant (.int i) j pos) (eC (.int i)) := PE.mono pe_int fun σ H Q ⟨ca, ms, r, h⟩ => h _ ca H (.refl _ _) r (by simp only [Rp])
theorem de_bl {D : DC} {Wx : WX} {X : Cx} {i j pos} : DE D Wx X (.Constant (.bool i) j pos) (eC (.bool i)) := PE.mono pe_bl fun σ H Q ⟨ca, ms, r, h⟩ => h _ ca H (.refl _ _) r (by simp only [Rp])
theorem de_non {D : DC} {Wx : WX} {X : Cx} {j pos} : DE D Wx X (.Constant .none j pos) (eC .none) := PE.mono pe_non fun σ H Q ⟨ca, ms, r, h⟩ => h _ ca H (.refl _ _) r (by simp only [Rp])
theorem de_str {D : DC} {Wx : WX} {X : Cx} {i j pos} : DE D Wx X (.Constant (.str i) j pos) (eC (.str i)) := PE.mono pe_str fun σ H Q ⟨ca, ms, r, h⟩ => h _ ca H (.refl _ _) r (by simp only [Rp])
/-- values in, a value out, the heap grows -/
def DOp (D : DC) (X : Cx) (f : Value → Value → Sem Value) (g : W → W → Option W) : Prop :=
  ∀ (pins : List (Addr × Obj)) (s : Shared) (σ : L2.St) (ca : CA) (H : Hp) (x y : V) (u1 u2 : Value) (wx wy w : W) (Q : VK), Inv X pins σ H s → RelV x u1 → RelV y u2 → Rp D.K ca H wx x → Rp D.K ca H wy y → g wx wy = some w →
    (∀ v H', Same H H' → Rp D.K ca H' w v → Q v H') → wpAny (model X.prog X.w) X.A (f u1 u2) (EP X pins σ Q) X.xe s
def opt {α : Type} (o : Option α) (m : MS) : R α := match o with
  | some a => .ok a m
  | none => .bad
theorem Po.opt {D : DC} {Wx : WX} {σ : L2.St} {ca : CA} {H : Hp} {α : Type} {o : Option α} {m : MS} {P : α → MS → Prop} (h : Po D Wx σ ca H (DL.opt o m) P) : ∃ a, o = some a ∧ P a m := by
  cases o with
  | none => exact h.elim
  | some a => exact ⟨a, rfl, h⟩
def eBin (g : W → W → Option W) (a b : EM) : EM := fun m => (a m).bind fun x m => (b m).bind fun y m => opt (g x y) m
theorem RdE.two {D : DC} {Wx : WX} {σ : L2.St} {H : Hp} {Q : VK} {g : W → W → Option W} {ma mb : EM} (h : RdE D Wx (eBin g ma mb) σ H Q) :
    RdE D Wx ma σ H fun x H1 => RdE D Wx mb σ H1 fun y H2 => ∃ ca wx wy w, Rp D.K ca H2 wx x ∧ Rp D.K ca H2 wy y ∧ g wx wy = some w ∧ ∀ v H', Same H2 H' → Rp D.K ca H' w v → Q v H' := by
  obtain ⟨ca, ms, r, h⟩ := h
  refine RdE.bind r h fun wx x ms1 ca1 H1 x1 r1 p1 h1 => ?_
  refine RdE.bind r1 (h1.ext x1) fun wy y ms2 ca2 H2 x2 r2 p2 h2 => ?_
  obtain ⟨w, e, q⟩ := Po.opt h2
  exact ⟨ca2, wx, wy, w, Rp.mono x2 _ _ p1, p2, e, fun v H' g p => q v ca2 H' ((x1.trans x2).trans (.of_same g)) (r2.grow g) p⟩
theorem de_op {D : DC} {Wx : WX} {X : Cx} {op : Operator} {a b : Expr} {ma mb : EM} {g : W → W → Option W} {pos : Pos} (ho : DOp D X (binaryOp op) g) (ha : DE D Wx X a ma) (hb : DE D Wx X b mb) : DE D Wx X (.BinOp a op b pos) (eBin g ma mb) := by
  refine ⟨fun pins s σ H Q I h => ?_⟩
  exact wpAny_BinOp (binT ha hb I h.two fun v u s2 x y H2 I2 rx ry ⟨ca, wx, wy, w, p1, p2, e, q⟩ => ho pins s2 σ ca H2 x y v u wx wy w Q I2 rx ry p1 p2 e q)
theorem de_cmp {D : DC} {Wx : WX} {X : Cx} {op : CmpOp} {a b : Expr} {ma mb : EM} {g : W → W → Option W} {pos : Pos} (ho : DOp D X (compareOp op) g) (ha : DE D Wx X a ma) (hb : DE D Wx X b mb) (hm : behindInMarks op b = false) : DE D Wx X (.Compare a [op] [b] pos) (eBin g ma mb) := by
  refine ⟨fun pins s σ H Q I h => ?_⟩
  refine wpAny_Compare1 (binT ha hb I h.two fun v u s2 x y H2 I2 rx ry ⟨ca, wx, wy, w, p1, p2, e, q⟩ => ho pins s2 σ ca H2 x y v u wx wy w Q I2 rx ry p1 p2 e q) hm
/-- from a rule of the layer below -/
theorem dop_of {D : DC} {X : Cx} {f : Value → Value → Sem Value} {g : W → W → Option W} {r : R2} (ho : OpR X f r) (h : ∀ ca H x y wx wy w Q, Rp D.K ca H wx x → Rp D.K ca H wy y → g wx wy = some w → (∀ v H', Same H H' → Rp D.K ca H' w v → Q v H') → r x y H Q) : DOp D X f g :=
  fun pins s σ ca H x y u1 u2 wx wy w Q I r1 r2 p1 p2 e q => ho pins s σ H x y u1 u2 Q I r1 r2 (h ca H x y wx wy w Q p1 p2 e q)
/-- an expression whose value is a bool, as a test -/
def tVal (a : EM) : TM := fun m => (a m).bind fun x m => match x with
  | .bool b => .ok b m
  | _ => .bad
theorem dt_val {D : DC} {Wx : WX} {X : Cx} {e : Expr} {m : EM} (h : DE D Wx X e m) (he : ∀ whole, isTrue e X.env whole = (do let v ← whole; standAt e.pos; holding [v] (truthy v)) := by intro _; rfl) : DT D Wx X e (tVal m) :=
  PT.mono (pt_val h he) fun σ H Q ⟨ca, ms, r, h⟩ => by
    refine RdE.bind r h fun w v ms1 ca1 H1 x1 r1 p1 h1 => ?_
    cases w with
    | bool b =>
      simp only [Rp] at p1
      exact ⟨b, p1, h1 ca1 H1 x1 r1⟩
    | _ => exact h1.elim
theorem dt_cmp {D : DC} {Wx : WX} {X : Cx} {op : CmpOp} {a b : Expr} {ma mb : EM} {g : W → W → Option W} {pos : Pos} (ho : DOp D X (compareOp op) g) (ha : DE D Wx X a ma) (hb : DE D Wx X b mb) (hm : behindInMarks op b = false) : DT D Wx X (.Compare a [op] [b] pos) (tVal (eBin g ma mb)) := by
  refine ⟨fun pins s σ H Q I h => ?_⟩
  have h' : RdE D Wx (eBin g ma mb) σ H fun v H1 => ∃ k, v = .bl k ∧ Q k H1 := by
    obtain ⟨ca, ms, r, h⟩ := h
    refine RdE.bind r h fun w v ms1 ca1 H1 x1 r1 p1 h1 => ?_
    cases w with
    | bool b =>
      simp only [Rp] at p1
      exact ⟨b, p1, h1 ca1 H1 x1 r1⟩
    | _ => exact h1.elim
  refine wpAny_isTrue_Compare1 (binT ha hb I h'.two fun v u s2 x y H2 I2 rx ry ⟨ca, wx, wy, w, p1, p2, e, q⟩ => thn (ho pins s2 σ ca H2 x y v u wx wy w _ I2 rx ry p1 p2 e q) fun z s3 ⟨zv, H3, I3, r3, k, e3, q3⟩ => ?_) hm
  subst e3
  cases r3
  exact wpAny_truthy_bool ⟨H3, I3, q3⟩
def tAnd (a b : TM) : TM := fun m => (a m).bind fun x m => if x = true then b m else .ok false m
def tOr (a b : TM) : TM := fun m => (a m).bind fun x m => if x = true then .ok true m else b m
def tNot (a : TM) : TM := fun m => (a m).bind fun x m => .ok (!x) m
section
variable {D : DC} {Wx : WX} {X : Cx} {a b c : Expr} {rest : List Expr} {pos : Pos} {ma mb : TM} {ea eb : EM}
theorem dt_not (ha : DT D Wx X a ma) : DT D Wx X (.UnaryOp .Not a pos) (tNot ma) :=
  PT.mono (pt_not ha) fun σ H Q ⟨ca, ms, r, h⟩ => RdT.bind r h fun k ms1 ca1 H1 x1 r1 h1 => h1 ca1 H1 x1 r1
/-- as values -/
def eAnd (a b : EM) : EM := fun m => (a m).bind fun x m => match x with
  | .bool true => b m
  | .bool false => .ok (.bool false) m
  | _ => .bad
def eOr (a b : EM) : EM := fun m => (a m).bind fun x m => match x with
  | .bool false => b m
  | .bool true => .ok (.bool true) m
  | _ => .bad
def eNot (a : EM) : EM := fun m => (a m).bind fun x m => match x with
  | .bool b => .ok (.bool (!b)) m
  | _ => .bad
def eIf (t : TM) (a b : EM) : EM := fun m => (t m).bind fun x m => if x = true then a m else b m
theorem EQ.go {σ : L2.St} {ca ca1 : CA} {H H1 : Hp} {Q : VK} {r : R W} (x : Ext ca H ca1 H1) (h : Po D Wx σ ca H r (EQ D σ ca H Q)) : Po D Wx σ ca1 H1 r (EQ D σ ca1 H1 Q) :=
  (h.ext x).imp fun w ms' q v ca' H' x' => q v ca' H' (x.trans x')
theorem de_if (hc : DT D Wx X c ma) (ha : DE D Wx X a ea) (hb : DE D Wx X b eb) : DE D Wx X (.IfExp c a b pos) (eIf ma ea eb) :=
  PE.mono (pe_ifExp hc ha hb) fun σ H Q ⟨ca, ms, r, h⟩ => RdT.bind r h fun k ms1 ca1 H1 x1 r1 h1 => by
    cases k with
    | true => exact ⟨ca1, ms1, r1, EQ.go x1 h1⟩
    | false => exact ⟨ca1, ms1, r1, EQ.go x1 h1⟩
end
end DL
namespace DL
open PySem PySem.Spec PyProof.Rows L2
abbrev LM := MS → R (List W)
def RdA (D : DC) (Wx : WX) (m : LM) : TA := fun σ H Q => ∃ ca ms, Rel D ca σ H ms ∧ Po D Wx σ ca H (m ms) (fun ws ms' => ∀ vs ca' H', Ext ca H ca' H' → Rel D ca' σ H' ms' → RpAll D.K ca' H' ws vs → Q vs H')
def DA (D : DC) (Wx : WX) (X : Cx) (es : List Expr) (m : LM) : Prop := PA X es (RdA D Wx m)
theorem RdA.bind {D : DC} {Wx : WX} {σ : L2.St} {ca : CA} {H : Hp} {ms : MS} {ma : LM} {β : Type} {f : List W → MS → R β} {P : β → MS → Prop} {Q : List V → Hp → Prop} (r : Rel D ca σ H ms) (h : Po D Wx σ ca H ((ma ms).bind f) P)
    (q : ∀ ws vs ms1 ca1 H1, Ext ca H ca1 H1 → Rel D ca1 σ H1 ms1 → RpAll D.K ca1 H1 ws vs → Po D Wx σ ca H (f ws ms1) P → Q vs H1) : RdA D Wx ma σ H Q := by
  refine ⟨ca, ms, r, ?_⟩
  cases e : ma ms with
  | ok w ms1 =>
    rw [e] at h
    exact fun vs ca1 H1 x1 r1 p1 => q w vs ms1 ca1 H1 x1 r1 p1 h
  | err c fs m =>
    rw [e] at h
    exact h
  | bad =>
    rw [e] at h
    exact h
def aNil : LM := fun m => .ok [] m
def aCons (a : EM) (r : LM) : LM := fun m => (a m).bind fun x m => (r m).bind fun xs m => .ok (x :: xs) m
def itemsOf : W → Option (List W)
  | .tuple xs => some xs
  | .list xs => some xs
  | _ => none
def aStar (a : EM) (r : LM) : LM := fun m => (a m).bind fun x m => match itemsOf x with
  | some ys => (r m).bind fun xs m => .ok (ys ++ xs) m
  | none => .bad
theorem RpAll.append {K : PySem.W.Frag} {ca : CA} {H : Hp} : ∀ {xs ys : List W} {vs us : List V}, RpAll K ca H xs vs → RpAll K ca H ys us → RpAll K ca H (xs ++ ys) (vs ++ us)
  | [], ys, vs, us, h, h' => by simp only [RpAll] at h; subst h; exact h'
  | x :: xs, ys, vs, us, h, h' => by
    simp only [RpAll, List.cons_append] at h ⊢
    obtain ⟨v, r, rfl, h1, h2⟩ := h
    exact ⟨v, r ++ us, rfl, h1, RpAll.append h2 h'⟩
theorem RpAll.length {K : PySem.W.Frag} {ca : CA} {H : Hp} : ∀ {xs : List W} {vs : List V}, RpAll K ca H xs vs → vs.length = xs.length
  | [], vs, h => by simp only [RpAll] at h; subst h; rfl
  | x :: xs, vs, h => by
    simp only [RpAll] at h
    obtain ⟨v, r, rfl, h1, h2⟩ := h
    rw [List.length_cons, List.length_cons, h2.length]
theorem RpAll.get {K : PySem.W.Frag} {ca : CA} {H : Hp} : ∀ {xs : List W} {vs : List V} {i : Nat} {x : W}, RpAll K ca H xs vs → xs[i]? = some x → ∃ v, vs[i]? = some v ∧ Rp K ca H x v
  | [], vs, i, x, h, e => by simp at e
  | y :: xs, vs, i, x, h, e => by
    simp only [RpAll] at h
    obtain ⟨v, r, rfl, h1, h2⟩ := h
    cases i with
    | zero => simp at e; subst e; exact ⟨v, rfl, h1⟩
    | succ i =>
      obtain ⟨u, e1, e2⟩ := h2.get (i := i) (x := x) (by simpa using e)
      exact ⟨u, by simpa using e1, e2⟩
theorem RpAll.get' {K : PySem.W.Frag} {ca : CA} {H : Hp} : ∀ {xs : List W} {vs : List V} {i : Nat} {v : V}, RpAll K ca H xs vs → vs[i]? = some v → ∃ x, xs[i]? = some x ∧ Rp K ca H x v
  | [], vs, i, x, h, e => by simp only [RpAll] at h; subst h; simp at e
  | y :: xs, vs, i, x, h, e => by
    simp only [RpAll] at h
    obtain ⟨v, r, rfl, h1, h2⟩ := h
    cases i with
    | zero => simp at e; subst e; exact ⟨y, rfl, h1⟩
    | succ i =>
      obtain ⟨u, e1, e2⟩ := h2.get' (i := i) (v := x) (by simpa using e)
      exact ⟨u, by simpa using e1, e2⟩
theorem RpAll.take {K : PySem.W.Frag} {ca : CA} {H : Hp} : ∀ {xs : List W} {vs : List V} (n : Nat), RpAll K ca H xs vs → RpAll K ca H (xs.take n) (vs.take n)
  | _, _, 0, _ => by simp [RpAll]
  | [], vs, n + 1, h => by simp only [RpAll] at h; subst h; simp [RpAll]
  | x :: xs, vs, n + 1, h => by
    simp only [RpAll] at h
    obtain ⟨v, r, rfl, h1, h2⟩ := h
    simp only [List.take_succ_cons, RpAll]
    exact ⟨v, _, rfl, h1, h2.take n⟩
theorem RpAll.drop {K : PySem.W.Frag} {ca : CA} {H : Hp} : ∀ {xs : List W} {vs : List V} (n : Nat), RpAll K ca H xs vs → RpAll K ca H (xs.drop n) (vs.drop n)
  | _, _, 0, h => h
  | [], vs, n + 1, h => by simp only [RpAll] at h; subst h; simp [RpAll]
  | x :: xs, vs, n + 1, h => by
    simp only [RpAll] at h
    obtain ⟨v, r, rfl, h1, h2⟩ := h
    simp only [List.drop_succ_cons]
    exact h2.drop n
theorem RpAll.set {K : PySem.W.Frag} {ca : CA} {H : Hp} {x : W} {v : V} (r : Rp K ca H x v) : ∀ {xs : List W} {vs : List V} (n : Nat), RpAll K ca H xs vs → RpAll K ca H (xs.set n x) (vs.set n v)
  | [], vs, n, h => by simp only [RpAll] at h; subst h; simp [RpAll]
  | y :: xs, vs, 0, h => by
    simp only [RpAll] at h
    obtain ⟨u, t, rfl, h1, h2⟩ := h
    simp only [List.set_cons_zero, RpAll]
    exact ⟨v, t, rfl, r, h2⟩
  | y :: xs, vs, n + 1, h => by
    simp only [RpAll] at h
    obtain ⟨u, t, rfl, h1, h2⟩ := h
    simp only [List.set_cons_succ, RpAll]
    exact ⟨u, _, rfl, h1, h2.set r n⟩
theorem RpAll.one {K : PySem.W.Frag} {ca : CA} {H : Hp} {x : W} {v : V} (r : Rp K ca H x v) : RpAll K ca H [x] [v] := by simp only [RpAll]; exact ⟨v, [], rfl, r, rfl⟩
theorem RpAll.rep {K : PySem.W.Frag} {ca : CA} {H : Hp} {xs : List W} {vs : List V} (r : RpAll K ca H xs vs) : ∀ n, RpAll K ca H (List.replicate n xs).flatten (List.replicate n vs).flatten
  | 0 => by simp [RpAll]
  | n + 1 => by
    simp only [List.replicate_succ, List.flatten_cons]
    exact r.append (RpAll.rep r n)
section
variable {D : DC} {Wx : WX} {X : Cx} {e : Expr} {es : List Expr} {ma : EM} {mr : LM} {pos : Pos}
theorem da_nil : DA D Wx X [] aNil := PA.mono pa_nil fun σ H Q ⟨ca, ms, r, h⟩ => h [] ca H (.refl _ _) r (by simp only [RpAll])
theorem da_cons (ha : DE D Wx X e ma) (hr : DA D Wx X es mr) (hs : starEach (e :: es) X.env = (false, eval e X.env) :: starEach es X.env := by rfl) : DA D Wx X (e :: es) (aCons ma mr) :=
  PA.mono (pa_cons ha hr hs) fun σ H Q ⟨ca, ms, r, h⟩ => RdE.bind r h fun w v ms1 ca1 H1 x1 r1 p1 h1 => RdA.bind r1 (h1.ext x1) fun ws vs ms2 ca2 H2 x2 r2 p2 h2 => by
    exact h2 (v :: vs) ca2 H2 (x1.trans x2) r2 (by simp only [RpAll]; exact ⟨v, vs, rfl, Rp.mono x2 _ _ p1, p2⟩)
def szOk (n : Nat) : Bool := Nat.ble n 16777216
theorem szOk_le {n : Nat} (h : szOk n = true) : n ≤ sizeLine := by rw [sizeLine_eq]; exact Nat.le_of_ble_eq_true h
/-- a new tuple's object -/
abbrev tO (its : List Value) : Obj := { cls := .type "tuple", data := .seq its.toArray }
theorem newTup {X : Cx} {pins : List (Addr × Obj)} {σ : L2.St} {H : Hp} {s : Shared} {h' : Heap} {a : Addr} {xs : List V} {its : List Value} {t' : Nat} (I : Inv X pins σ H s) (k : ∀ b u, s.heap.get? b = some u → h'.get? b = some u) (hp : s.heap.objs.size ≤ a) (e : h'.get? a = some (tO its)) (rv : Vals xs its) (hz : xs.length ≤ sizeLine) :
    Inv X pins σ (upd H a (.frz (tO its) (.tup xs))) { s with heap := h', toks := t' } := I.laid (t' := t') k hp ⟨e, hz, its, rv, ⟨_, e, rfl, _, rfl⟩⟩
/-- what is wanted of a new tuple -/
def NewT (H : Hp) (xs : List V) (Q : VK) : Prop := ∀ p o, H p = none → o.dict = none → Q (.ref p) (upd H p (.frz o (.tup xs)))
theorem NewT.ep {X : Cx} {pins : List (Addr × Obj)} {σ : L2.St} {H : Hp} {s : Shared} {xs : List V} {its : List Value} {Q : VK} (q : NewT H xs Q) (I : Inv X pins σ H s) (rv : Vals xs its) (hz : xs.length ≤ sizeLine) : EP X pins σ Q (.ref s.heap.objs.size) { s with heap := s.heap.push (tO its) } :=
  ⟨.ref s.heap.objs.size, _, newTup (t' := s.toks) I (fun _ _ e => Heap.get?_push_of_some _ e) (Nat.le_refl _) (Heap.get?_push_size _ rfl) rv hz, rfl, q _ _ (I.hok.fresh (Nat.le_refl _)) rfl⟩
theorem fzt_new {K : PySem.W.Frag} {H : Hp} {p : Addr} {o : Obj} {xs : List V} (h : o.dict = none) : FzT K (upd H p (.frz o (.tup xs))) p xs := .inl ⟨o, upd_same, h⟩
def tTupS (t : TA) : TE := fun σ H Q => t σ H fun xs H1 => xs.length ≤ sizeLine ∧ NewT H1 xs Q
theorem pe_tupS {X : Cx} {es : List Expr} {t : TA} {pos : Pos} {x1} (h : PA X es t) : PE X (.Tuple es x1 pos) (tTupS t) := by
  refine ⟨fun pins s σ H Q I hq => ?_⟩
  refine wpAny_Tuple_spliced (thn (h.run pos pins s σ H _ I hq) fun us s1 ⟨xs, H1, I1, r, z, q⟩ => ⟨by rw [← r.length]; exact z, ?_⟩)
  exact q.ep I1 r z
def eTup (l : LM) : EM := fun m => (l m).bind fun ws m => if szOk ws.length = true then .ok (.tuple ws) m else .bad
theorem de_tup {x1} (h : DA D Wx X es mr) : DE D Wx X (.Tuple es x1 pos) (eTup mr) :=
  PE.mono (pe_tupS h) fun σ H Q ⟨ca, ms, r, h⟩ => RdA.bind r h fun ws vs ms1 ca1 H1 x1 r1 p1 h1 => by
    by_cases hz : szOk ws.length = true
    · rw [if_pos hz] at h1
      refine ⟨by rw [p1.length]; exact szOk_le hz, fun p o np od => ?_⟩
      have g : Same H1 (upd H1 p (.frz o (.tup vs))) := Same.upd_new np
      exact h1 _ ca1 _ (x1.trans (.of_same g)) (r1.grow g) (by simp only [Rp]; exact ⟨p, vs, rfl, fzt_new od, RpAll.mono (.of_same g) _ _ p1⟩)
    · rw [if_neg hz] at h1
      exact h1.elim
/-- a new list that nobody else knows -/
def FQ (D : DC) (σ : L2.St) (ca : CA) (H : Hp) (Q : VK) (xs : List W) (ms' : MS) : Prop := ∀ p vs ca' H', Ext ca H ca' H' → Rel D ca' σ H' ms' → H' p = none → RpAll D.K ca' H' xs vs → Q (.ref p) (upd H' p (.lst vs))
def RdF (D : DC) (Wx : WX) (m : LM) : TE := fun σ H Q => ∃ ca ms, Rel D ca σ H ms ∧ Po D Wx σ ca H (m ms) (FQ D σ ca H Q)
def DF (D : DC) (Wx : WX) (X : Cx) (e : Expr) (m : LM) : Prop := PE X e (RdF D Wx m)
def fLst (l : LM) : LM := fun m => (l m).bind fun ws m => if szOk ws.length = true then .ok ws m else .bad
theorem df_lst (h : DA D Wx X es mr) : DF D Wx X (.List es pos) (fLst mr) :=
  PE.mono (pe_lst h) fun σ H Q ⟨ca, ms, r, h⟩ => RdA.bind r h fun ws vs ms1 ca1 H1 x1 r1 p1 h1 => by
    by_cases hz : szOk ws.length = true
    · rw [if_pos hz] at h1
      have hz' := szOk_le hz
      refine ⟨by rw [p1.length]; exact hz', fun p np => ?_⟩
      exact h1 p vs ca1 H1 x1 r1 np p1
    · rw [if_neg hz] at h1
      exact h1.elim
/-- the list is frozen at once -/
theorem pe_freeze {t : TE} (h : PE X e t) : PE X e (fun σ H Q => t σ H fun v H' => ∃ p vs, v = .ref p ∧ H' p = some (.lst vs) ∧ ∀ o, Q v (upd H' p (.frz o (.lst vs)))) :=
  ⟨fun pins s σ H Q I hw => thn (h.run pins s σ H _ I hw) fun u s1 ⟨v, H', I1, rv, p, vs, ev, hp, q⟩ => by
    obtain ⟨od, I2⟩ := I1.lock hp trivial
    exact ⟨v, _, I2, rv, q od⟩⟩
def eFz (l : LM) : EM := fun m => (l m).bind fun ws m => .ok (.list ws) m
theorem de_fz (h : DF D Wx X e mr) : DE D Wx X e (eFz mr) :=
  PE.mono (pe_freeze h) fun σ H Q ⟨ca, ms, r, h⟩ => by
    refine ⟨ca, ms, r, ?_⟩
    unfold eFz at h
    cases e : mr ms with
    | ok ws ms1 =>
      rw [e] at h
      refine fun p vs ca' H' x1 r1 np p1 => ⟨p, vs, rfl, upd_same, fun o => ?_⟩
      rw [upd_upd]
      have g : Same H' (upd H' p (.frz o (.lst vs))) := Same.upd_new np
      exact h _ ca' _ (x1.trans (.of_same g)) (r1.grow g) (by simp only [Rp]; exact ⟨p, vs, rfl, .inl ⟨o, upd_same⟩, RpAll.mono (.of_same g) _ _ p1⟩)
    | err c fs m =>
      rw [e] at h
      exact h
    | bad =>
      rw [e] at h
      exact h
end
/-- values in, a value out, the heap grows -/
def DCall (D : DC) (X : Cx) (f : Value) (g : List W → Option W) : Prop :=
  ∀ (pins : List (Addr × Obj)) (s : Shared) (σ : L2.St) (ca : CA) (H : Hp) (xs : List V) (us : List Value) (ws : List W) (w : W) (Q : VK), Inv X pins σ H s → Vals xs us → RpAll D.K ca H ws xs → g ws = some w →
    (∀ v H', Same H H' → Rp D.K ca H' w v → Q v H') → wpAny (model X.prog X.w) X.A (call f us) (EP X pins σ Q) X.xe s
/-- values in, a new list out -/
def DCallF (D : DC) (X : Cx) (f : Value) (g : List W → Option (List W)) : Prop :=
  ∀ (pins : List (Addr × Obj)) (s : Shared) (σ : L2.St) (ca : CA) (H : Hp) (xs : List V) (us : List Value) (ws w : List W) (Q : VK), Inv X pins σ H s → Vals xs us → RpAll D.K ca H ws xs → g ws = some w →
    (∀ p vs, H p = none → RpAll D.K ca H w vs → Q (.ref p) (upd H p (.lst vs))) → wpAny (model X.prog X.w) X.A (call f us) (EP X pins σ Q) X.xe s
def eOf (g : List W → Option W) (l : LM) : EM := fun m => (l m).bind fun ws m => opt (g ws) m
def fOf (g : List W → Option (List W)) (l : LM) : LM := fun m => (l m).bind fun ws m => opt (g ws) m
theorem RdA.opt {D : DC} {Wx : WX} {σ : L2.St} {H : Hp} {Q : VK} {g : List W → Option W} {l : LM} (h : RdE D Wx (eOf g l) σ H Q) :
    RdA D Wx l σ H fun vs H1 => ∃ ca ws w, RpAll D.K ca H1 ws vs ∧ g ws = some w ∧ ∀ v H', Same H1 H' → Rp D.K ca H' w v → Q v H' := by
  obtain ⟨ca, ms, r, h⟩ := h
  refine RdA.bind r h fun ws vs ms1 ca1 H1 x1 r1 p1 h1 => ?_
  obtain ⟨w, e, q⟩ := Po.opt h1
  exact ⟨ca1, ws, w, p1, e, fun v H' g p => q v ca1 H' (x1.trans (.of_same g)) (r1.grow g) p⟩
theorem RdA.optF {D : DC} {Wx : WX} {σ : L2.St} {H : Hp} {Q : VK} {g : List W → Option (List W)} {l : LM} (h : RdF D Wx (fOf g l) σ H Q) :
    RdA D Wx l σ H fun vs H1 => ∃ ca ws w, RpAll D.K ca H1 ws vs ∧ g ws = some w ∧ ∀ p vs, H1 p = none → RpAll D.K ca H1 w vs → Q (.ref p) (upd H1 p (.lst vs)) := by
  obtain ⟨ca, ms, r, h⟩ := h
  refine RdA.bind r h fun ws vs ms1 ca1 H1 x1 r1 p1 h1 => ?_
  obtain ⟨w, e, q⟩ := Po.opt h1
  exact ⟨ca1, ws, w, p1, e, fun p vs np pv => q p vs ca1 H1 x1 r1 np pv⟩
section
variable {D : DC} {Wx : WX} {X : Cx} {x : Str} {p pos : Pos} {e : Expr} {es : List Expr} {l : LM} {id T : String} {g : List W → Option W} {gf : List W → Option (List W)}
theorem callR_of (hc : DCall D X (.builtin id) g) : CallR X (.builtin id) (fun vs H Q => ∃ ca ws w, RpAll D.K ca H ws vs ∧ g ws = some w ∧ ∀ v H', Same H H' → Rp D.K ca H' w v → Q v H') :=
  fun pins s σ H xs us Q I r ⟨ca, ws, w, p, e, q⟩ => hc pins s σ ca H xs us ws w Q I r p e q
theorem callRT_of (hc : DCall D X (.type T) g) : CallR X (.type T) (fun vs H Q => ∃ ca ws w, RpAll D.K ca H ws vs ∧ g ws = some w ∧ ∀ v H', Same H H' → Rp D.K ca H' w v → Q v H') :=
  fun pins s σ H xs us Q I r ⟨ca, ws, w, p, e, q⟩ => hc pins s σ ca H xs us ws w Q I r p e q
theorem callRF_of {f : Value} (hc : DCallF D X f gf) : CallR X f (fun vs H Q => ∃ ca ws w, RpAll D.K ca H ws vs ∧ gf ws = some w ∧ ∀ p vs, H p = none → RpAll D.K ca H w vs → Q (.ref p) (upd H p (.lst vs))) :=
  fun pins s σ H xs us Q I r ⟨ca, ws, w, p, e, q⟩ => hc pins s σ ca H xs us ws w Q I r p e q
theorem de_callB (hc : DCall D X (.builtin id) g) (hg : Gl X x) (hm : X.mg x = none) (hv : bootBuiltins x = some (.builtin id)) (ha : DA D Wx X (e :: es) l) (hn : x ≠ "__name__" := by decide) (hdb : (x == ("__debug__" : Str)) = false := by decide)
    (he : starEach (e :: es) X.env = (false, eval e X.env) :: starEach es X.env := by rfl) (hpl : (backTo pos (starEach es X.env)).any (·.1) = false := by rfl) : DE D Wx X (.Call (.Name x p) (e :: es) [] pos) (eOf g l) :=
  PE.mono (pe_callB (callR_of hc) hg hm hv ha hn hdb he hpl) fun σ H Q h => RdA.opt h
theorem de_callTy (hc : DCall D X (.type T) g) (hg : Gl X x) (hm : X.mg x = none) (hv : bootBuiltins x = some (.type T)) (ha : DA D Wx X (e :: es) l) (hn : x ≠ "__name__" := by decide) (hdb : (x == ("__debug__" : Str)) = false := by decide)
    (he : starEach (e :: es) X.env = (false, eval e X.env) :: starEach es X.env := by rfl) (hpl : (backTo pos (starEach es X.env)).any (·.1) = false := by rfl) : DE D Wx X (.Call (.Name x p) (e :: es) [] pos) (eOf g l) :=
  PE.mono (pe_callTy (callRT_of hc) hg hm hv ha hn hdb he hpl) fun σ H Q h => RdA.opt h
theorem df_callTy (hc : DCallF D X (.type T) gf) (hg : Gl X x) (hm : X.mg x = none) (hv : bootBuiltins x = some (.type T)) (ha : DA D Wx X (e :: es) l) (hn : x ≠ "__name__" := by decide) (hdb : (x == ("__debug__" : Str)) = false := by decide)
    (he : starEach (e :: es) X.env = (false, eval e X.env) :: starEach es X.env := by rfl) (hpl : (backTo pos (starEach es X.env)).any (·.1) = false := by rfl) : DF D Wx X (.Call (.Name x p) (e :: es) [] pos) (fOf gf l) :=
  PE.mono (pe_callTy (callRF_of hc) hg hm hv ha hn hdb he hpl) fun σ H Q h => RdA.optF h
end
end DL
namespace DL
open PySem PySem.Spec PyProof.Rows L2
theorem Inv.fzl {X : Cx} {pins : List (Addr × Obj)} {σ : L2.St} {H : Hp} {s : Shared} {l : Addr} {xs : List V} (I : Inv X pins σ H s) (h : FzL X.K H l xs) : xs.length ≤ sizeLine ∧ ∃ (its : List Value) (n : Nat), Vals xs its ∧ xs.length = its.length ∧ s.heap.get? l = some { cls := .type "list", data := .seq its.toArray n } := by
  rcases h with ⟨o, h⟩ | ⟨its, n, h1, h2, h3⟩
  · obtain ⟨e, z, its, n, r, e'⟩ := I.hok l _ h
    exact ⟨z, its, n, r, r.length, e'⟩
  · have e := h3.length
    exact ⟨by rw [e]; simpa using h2, its.toList, n, h3, e, by simpa using I.kIn _ _ h1⟩
section
variable {D : DC} {X : Cx}
theorem Rp.int {K : PySem.W.Frag} {ca : CA} {H : Hp} {i : Int} {v : V} (h : Rp K ca H (.int i) v) : v = .int i := by simpa only [Rp] using h
theorem Rp.bool {K : PySem.W.Frag} {ca : CA} {H : Hp} {i : Bool} {v : V} (h : Rp K ca H (.bool i) v) : v = .bl i := by simpa only [Rp] using h
theorem Rp.str {K : PySem.W.Frag} {ca : CA} {H : Hp} {i : Str} {v : V} (h : Rp K ca H (.str i) v) : v = .str i := by simpa only [Rp] using h
theorem Rp.none {K : PySem.W.Frag} {ca : CA} {H : Hp} {v : V} (h : Rp K ca H .none v) : v = .non := by simpa only [Rp] using h
theorem Rp.tup {K : PySem.W.Frag} {ca : CA} {H : Hp} {xs : List W} {v : V} (h : Rp K ca H (.tuple xs) v) : ∃ a vs, v = .ref a ∧ FzT K H a vs ∧ RpAll K ca H xs vs := by simpa only [Rp] using h
theorem Rp.lst {K : PySem.W.Frag} {ca : CA} {H : Hp} {xs : List W} {v : V} (h : Rp K ca H (.list xs) v) : ∃ a vs, v = .ref a ∧ FzL K H a vs ∧ RpAll K ca H xs vs := by simpa only [Rp] using h
theorem rp_int {K : PySem.W.Frag} {ca : CA} {H : Hp} {i : Int} : Rp K ca H (.int i) (.int i) := by simp only [Rp]
theorem rp_bool {K : PySem.W.Frag} {ca : CA} {H : Hp} {i : Bool} : Rp K ca H (.bool i) (.bl i) := by simp only [Rp]
theorem rp_str {K : PySem.W.Frag} {ca : CA} {H : Hp} {i : Str} : Rp K ca H (.str i) (.str i) := by simp only [Rp]
theorem rp_tup {K : PySem.W.Frag} {ca : CA} {H : Hp} {xs : List W} {a : Addr} {vs : List V} (h1 : FzT K H a vs) (h2 : RpAll K ca H xs vs) : Rp K ca H (.tuple xs) (.ref a) := by simp only [Rp]; exact ⟨a, vs, rfl, h1, h2⟩
theorem rp_lst {K : PySem.W.Frag} {ca : CA} {H : Hp} {xs : List W} {a : Addr} {vs : List V} (h1 : FzL K H a vs) (h2 : RpAll K ca H xs vs) : Rp K ca H (.list xs) (.ref a) := by simp only [Rp]; exact ⟨a, vs, rfl, h1, h2⟩
def gI (f : Int → Int → W) : W → W → Option W
  | .int a, .int b => some (f a b)
  | _, _ => none
def gIc (c : Int → Int → Bool) (f : Int → Int → W) : W → W → Option W
  | .int a, .int b => if c a b = true then some (f a b) else none
  | _, _ => none
theorem dop_i0 {f : Value → Value → Sem Value} {g : Int → Int → V} {gw : Int → Int → W} (ho : OpR X f (rI0 g)) (hg : ∀ i j ca H, Rp D.K ca H (gw i j) (g i j)) : DOp D X f (gI gw) :=
  dop_of ho fun ca H x y wx wy w Q p1 p2 e q => by
    cases wx with
    | int i => cases wy with
      | int j =>
        cases e
        exact ⟨i, j, p1.int, p2.int, q _ H (fun _ _ h => h) (hg i j ca H)⟩
      | _ => cases e
    | _ => cases e
theorem dop_ic {f : Value → Value → Sem Value} {C : Int → Int → Prop} {c : Int → Int → Bool} {g : Int → Int → V} {gw : Int → Int → W} (ho : OpR X f (rI C g)) (hc : ∀ i j, c i j = true → C i j) (hg : ∀ i j ca H, Rp D.K ca H (gw i j) (g i j)) : DOp D X f (gIc c gw) :=
  dop_of ho fun ca H x y wx wy w Q p1 p2 e q => by
    cases wx with
    | int i => cases wy with
      | int j =>
        have e' : (if c i j = true then some (gw i j) else none) = some w := e
        by_cases h : c i j = true
        · rw [if_pos h] at e'
          cases e'
          exact ⟨i, j, p1.int, p2.int, hc i j h, q _ H (fun _ _ h => h) (hg i j ca H)⟩
        · rw [if_neg h] at e'; cases e'
      | _ => cases e
    | _ => cases e
/-- several ways, by what the values are -/
theorem DOp.or {f : Value → Value → Sem Value} {g g' : W → W → Option W} (h : DOp D X f g) (h' : DOp D X f g') : DOp D X f (fun a b => (g a b).or (g' a b)) :=
  fun pins s σ ca H x y u1 u2 wx wy w Q I r1 r2 p1 p2 e q => by
    cases e1 : g wx wy with
    | some z =>
      have e : (g wx wy).or (g' wx wy) = some w := e
      rw [e1] at e
      cases e
      exact h pins s σ ca H x y u1 u2 wx wy w Q I r1 r2 p1 p2 e1 q
    | none =>
      have e : (g wx wy).or (g' wx wy) = some w := e
      rw [e1] at e
      exact h' pins s σ ca H x y u1 u2 wx wy w Q I r1 r2 p1 p2 e q
def gAddI := gI fun i j => .int (i + j)
def gSubI := gI fun i j => .int (i - j)
def cMul (i j : Int) : Bool := Nat.blt (i.natAbs.log2 + j.natAbs.log2) 1000000
def gMulI := gIc cMul fun i j => .int (i * j)
def cDiv (i j : Int) : Bool := decide (0 < j) && Nat.blt j.natAbs.log2 9000
def gDivI := gIc cDiv fun i j => .int (i / j)
def cMod (i j : Int) : Bool := decide (0 < j)
def gModI := gIc cMod fun i j => .int (i % j)
theorem blt_lt {a b : Nat} (h : Nat.blt a b = true) : a < b := Nat.le_of_ble_eq_true h
theorem dop_addI : DOp D X (binaryOp .Add) gAddI := dop_i0 op_add fun _ _ _ _ => rp_int
theorem dop_mulI : DOp D X (binaryOp .Mult) gMulI := dop_ic op_mulW (fun i j h => blt_lt h) fun _ _ _ _ => rp_int
theorem dop_div : DOp D X (binaryOp .FloorDiv) gDivI := dop_ic op_fdivW (fun i j h => by
  unfold cDiv at h
  rw [Bool.and_eq_true] at h
  exact ⟨of_decide_eq_true h.1, blt_lt h.2⟩) fun _ _ _ _ => rp_int
theorem dop_mod : DOp D X (binaryOp .Mod) gModI := dop_ic op_mod (fun i j h => of_decide_eq_true h) fun _ _ _ _ => rp_int
def cPow (i j : Int) : Bool := decide (0 ≤ j) && (decide (j ≤ 1000000) && Nat.blt i.natAbs (2 ^ 64))
def gPow := gIc cPow fun i j => .int (i ^ j.toNat)
theorem dop_pow : DOp D X (binaryOp .Pow) gPow := dop_ic op_pow (fun i j h => by
  unfold cPow at h
  rw [Bool.and_eq_true, Bool.and_eq_true] at h
  exact ⟨of_decide_eq_true h.1, of_decide_eq_true h.2.1, blt_lt h.2.2⟩) fun _ _ _ _ => rp_int
def gCatT : W → W → Option W
  | .tuple xs, .tuple ys => if szOk (xs.length + ys.length) = true then some (.tuple (xs ++ ys)) else none
  | _, _ => none
def rCatS (K : PySem.W.Frag) : R2 := fun x y H Q => ∃ a b xs ys, x = .ref a ∧ y = .ref b ∧ SqT K H a xs ∧ SqT K H b ys ∧ xs.length + ys.length ≤ sizeLine ∧ (xs = [] → Q (.ref b) H) ∧ (xs ≠ [] → ys = [] → Q (.ref a) H) ∧ (xs ≠ [] → ys ≠ [] → NewT H (xs ++ ys) Q)
theorem op_catS : OpR X (binaryOp .Add) (rCatS X.K) := fun pins s σ H x y v u Q I rx ry ⟨a, b, xs, ys, ex, ey, ha, hb, hz, q0, q1, q2⟩ => by
  subst ex ey
  by_cases h0 : xs = []
  · exact op_catA pins s σ H _ _ v u Q I rx ry ⟨a, b, xs, ys, rfl, rfl, ha, hb, hz, q0, fun z => absurd h0 z, fun z => absurd h0 z⟩
  · cases rx
    cases ry
    obtain ⟨i1, r1, p1, _⟩ := I.tuple ha
    obtain ⟨i2, r2, p2, _⟩ := I.tuple hb
    exact HT.cat_tup p1 p2 (fun z => h0 (r1.nil_iff.mp z)) (fun z => ⟨.ref a, H, I, rfl, q1 h0 (r2.nil_iff.mp z)⟩) (fun z => (q2 h0 fun w => z (r2.nil_iff.mpr w)).ep I (r1.append r2) (by rw [List.length_append]; exact hz)) (by rw [← r1.length, ← r2.length]; exact hz)
theorem dop_catT (hK : D.K = X.K) : DOp D X (binaryOp .Add) gCatT :=
  dop_of op_catS fun ca H x y wx wy w Q p1 p2 e q => by
    cases wx with
    | tuple xs => cases wy with
      | tuple ys =>
        have e' : (if szOk (xs.length + ys.length) = true then some (PyData.tuple (xs ++ ys)) else none) = some w := e
        by_cases hz : szOk (xs.length + ys.length) = true
        · rw [if_pos hz] at e'
          cases e'
          obtain ⟨a, vs, rfl, f1, r1⟩ := p1.tup
          obtain ⟨b, us, rfl, f2, r2⟩ := p2.tup
          refine ⟨a, b, vs, us, rfl, rfl, by rw [← hK]; exact f1.sq, by rw [← hK]; exact f2.sq, by rw [r1.length, r2.length]; exact szOk_le hz, fun e0 => ?_, fun _ e0 => ?_, fun _ _ p o np od => ?_⟩
          · subst e0
            have : xs = [] := List.length_eq_zero_iff.mp r1.length.symm
            subst this
            exact q _ H (fun _ _ h => h) (rp_tup f2 r2)
          · subst e0
            have : ys = [] := List.length_eq_zero_iff.mp r2.length.symm
            subst this
            rw [List.append_nil] at q
            exact q _ H (fun _ _ h => h) (rp_tup f1 r1)
          · have g := Same.upd_new (o := .frz o (.tup (vs ++ us))) np
            exact q _ _ g (rp_tup (fzt_new od) (RpAll.mono (.of_same g) _ _ (r1.append r2)))
        · rw [if_neg hz] at e'; cases e'
      | _ => cases e
    | _ => cases e
def gAddS : W → W → Option W
  | .str x, .str y => if szOk (x.length + y.length) = true then some (.str (x ++ y)) else none
  | _, _ => none
theorem dop_addS : DOp D X (binaryOp .Add) gAddS :=
  dop_of op_add_str fun ca H x y wx wy w Q p1 p2 e q => by
    cases wx with
    | str xs => cases wy with
      | str ys =>
        have e' : (if szOk (xs.length + ys.length) = true then some (PyData.str (xs ++ ys)) else none) = some w := e
        by_cases hz : szOk (xs.length + ys.length) = true
        · rw [if_pos hz] at e'
          cases e'
          exact ⟨xs, ys, p1.str, p2.str, szOk_le hz, q _ H (fun _ _ h => h) rp_str⟩
        · rw [if_neg hz] at e'; cases e'
      | _ => cases e
    | _ => cases e
def gAdd : W → W → Option W
  | .int a, .int b => some (.int (a + b))
  | .tuple xs, .tuple ys => if szOk (xs.length + ys.length) = true then some (.tuple (xs ++ ys)) else none
  | .str x, .str y => if szOk (x.length + y.length) = true then some (.str (x ++ y)) else none
  | _, _ => none
theorem dop_add (hK : D.K = X.K) : DOp D X (binaryOp .Add) gAdd := fun pins s σ ca H x y u1 u2 wx wy w Q I r1 r2 p1 p2 e q =>
  ((dop_addI.or (dop_catT hK)).or dop_addS) pins s σ ca H x y u1 u2 wx wy w Q I r1 r2 p1 p2 (by rw [← e]; cases wx <;> cases wy <;> simp [gAdd, gAddI, gI, gCatT, gAddS]) q
end
end DL
namespace DL
open PySem PySem.Spec PyProof.Rows L2
mutual
theorem Rp.dp {K : PySem.W.Frag} {ca : CA} {H : Hp} : ∀ (w : W) (v : V), w.canLay0 = true → Rp K ca H w v → Dp K H v w
  | .none, v, _, h => by rw [h.none]; exact .non
  | .bool b, v, _, h => by rw [h.bool]; exact .bl b
  | .int b, v, _, h => by rw [h.int]; exact .int b
  | .str b, v, _, h => by rw [h.str]; exact .str b
  | .list xs, v, c, h => by
    obtain ⟨a, vs, rfl, f, r⟩ := h.lst
    exact .lst f.sq (RpAll.dp xs vs (by simpa [PyData.canLay0] using c) r)
  | .tuple xs, v, c, h => by
    obtain ⟨a, vs, rfl, f, r⟩ := h.tup
    exact .tup f.sq (RpAll.dp xs vs (by simpa [PyData.canLay0] using c) r)
  | .dict xs, v, c, h => by simp [PyData.canLay0] at c
theorem RpAll.dp {K : PySem.W.Frag} {ca : CA} {H : Hp} : ∀ (ws : List W) (vs : List V), PyData.canLayAll0 ws = true → RpAll K ca H ws vs → DpAll K H vs ws
  | [], vs, _, h => by simp only [RpAll] at h; subst h; exact .nil
  | x :: xs, vs, c, h => by
    simp only [RpAll] at h
    obtain ⟨v, r, rfl, h1, h2⟩ := h
    rw [PyData.canLayAll0, Bool.and_eq_true] at c
    exact .cons (Rp.dp x v c.1 h1) (RpAll.dp xs r c.2 h2)
end
/-- either is not deep -/
def shallow (a b : W) : Bool := Nat.ble a.depth 60 || Nat.ble b.depth 60
theorem shallow_min {a b : W} (h : shallow a b = true) : min a.depth b.depth ≤ 60 := by
  unfold shallow at h
  rw [Bool.or_eq_true] at h
  rcases h with h | h
  · exact Nat.le_trans (Nat.min_le_left _ _) (Nat.le_of_ble_eq_true h)
  · exact Nat.le_trans (Nat.min_le_right _ _) (Nat.le_of_ble_eq_true h)
/-- a == b -/
def eqW : W → W → Option Bool
  | .int a, .int b => some (decide (a = b))
  | .str a, .str b => some (decide (a = b))
  | a, b => if (a.canLay0 && b.canLay0 && shallow a b) = true then some (PyData.eqv a b) else none
def gEq (a b : W) : Option W := (eqW a b).map .bool
def gNe (a b : W) : Option W := (eqW a b).map fun k => .bool (!k)
section
variable {D : DC} {X : Cx}
theorem eqW_cases {a b : W} {k : Bool} (h : eqW a b = some k) : (∃ i j, a = .int i ∧ b = .int j ∧ k = decide (i = j)) ∨ (∃ i j, a = .str i ∧ b = .str j ∧ k = decide (i = j)) ∨ (a.canLay0 = true ∧ b.canLay0 = true ∧ shallow a b = true ∧ k = PyData.eqv a b) := by
  have gen : (if (a.canLay0 && b.canLay0 && shallow a b) = true then some (PyData.eqv a b) else none) = some k → a.canLay0 = true ∧ b.canLay0 = true ∧ shallow a b = true ∧ k = PyData.eqv a b := fun e => by
    by_cases hc : (a.canLay0 && b.canLay0 && shallow a b) = true
    · rw [if_pos hc] at e
      cases e
      rw [Bool.and_eq_true, Bool.and_eq_true] at hc
      exact ⟨hc.1.1, hc.1.2, hc.2, rfl⟩
    · rw [if_neg hc] at e; cases e
  cases a with
  | int i => cases b with
    | int j => exact .inl ⟨i, j, rfl, rfl, by simpa [eqW] using h.symm⟩
    | _ => exact .inr (.inr (gen (by simpa only [eqW] using h)))
  | str i => cases b with
    | str j => exact .inr (.inl ⟨i, j, rfl, rfl, by simpa [eqW] using h.symm⟩)
    | _ => exact .inr (.inr (gen (by simpa only [eqW] using h)))
  | _ => exact .inr (.inr (gen (by simpa only [eqW] using h)))
theorem eq_any (hK : D.K = X.K) (hu : X.A.units + 64 < cLine) {pins : List (Addr × Obj)} {s : Shared} {σ : L2.St} {ca : CA} {H : Hp} {x y : V} {u1 u2 : Value} {wx wy : W} {k : Bool} {R : Value → Shared → Prop} {E : Value → Shared → Prop} (I : Inv X pins σ H s) (r1 : RelV x u1) (r2 : RelV y u2)
    (p1 : Rp D.K ca H wx x) (p2 : Rp D.K ca H wy y) (e : eqW wx wy = some k) (h : R (.bool k) s) : wpAny (model X.prog X.w) X.A (compareOp .Eq u1 u2) R E s := by
  rcases eqW_cases e with ⟨i, j, rfl, rfl, rfl⟩ | ⟨i, j, rfl, rfl, rfl⟩ | ⟨c1, c2, hs, rfl⟩
  · rw [p1.int] at r1
    rw [p2.int] at r2
    obtain ⟨t, rfl⟩ := r1
    obtain ⟨t', rfl⟩ := r2
    exact eq_int (by rw [Bool.beq_eq_decide_eq]; exact h)
  · rw [p1.str] at r1
    rw [p2.str] at r2
    obtain ⟨t, rfl⟩ := r1
    obtain ⟨t', rfl⟩ := r2
    exact eq_str (by rw [Bool.beq_eq_decide_eq]; exact h)
  · rw [hK] at p1 p2
    obtain ⟨as, q1⟩ := Dp.reads I wx x u1 (Rp.dp wx x c1 p1) r1
    obtain ⟨bs, q2⟩ := Dp.reads I wy y u2 (Rp.dp wy y c2 p2) r2
    have hm := shallow_min hs
    exact SeqAt.compareEq_reads q1 q2 c1 c2 (by omega) h
theorem ne_any (hK : D.K = X.K) (hu : X.A.units + 64 < cLine) {pins : List (Addr × Obj)} {s : Shared} {σ : L2.St} {ca : CA} {H : Hp} {x y : V} {u1 u2 : Value} {wx wy : W} {k : Bool} {R : Value → Shared → Prop} {E : Value → Shared → Prop} (I : Inv X pins σ H s) (r1 : RelV x u1) (r2 : RelV y u2)
    (p1 : Rp D.K ca H wx x) (p2 : Rp D.K ca H wy y) (e : eqW wx wy = some k) (h : R (.bool (!k)) s) : wpAny (model X.prog X.w) X.A (compareOp .NotEq u1 u2) R E s := by
  rcases eqW_cases e with ⟨i, j, rfl, rfl, rfl⟩ | ⟨i, j, rfl, rfl, rfl⟩ | ⟨c1, c2, hs, rfl⟩
  · rw [p1.int] at r1
    rw [p2.int] at r2
    obtain ⟨t, rfl⟩ := r1
    obtain ⟨t', rfl⟩ := r2
    exact ne_int (by rw [bne, Bool.beq_eq_decide_eq]; exact h)
  · rw [p1.str] at r1
    rw [p2.str] at r2
    obtain ⟨t, rfl⟩ := r1
    obtain ⟨t', rfl⟩ := r2
    exact ne_str (by rw [bne, Bool.beq_eq_decide_eq]; exact h)
  · rw [hK] at p1 p2
    obtain ⟨as, q1⟩ := Dp.reads I wx x u1 (Rp.dp wx x c1 p1) r1
    obtain ⟨bs, q2⟩ := Dp.reads I wy y u2 (Rp.dp wy y c2 p2) r2
    have hm := shallow_min hs
    exact SeqAt.compareNe_reads q1 q2 c1 c2 (by omega) h
theorem dop_eq (hK : D.K = X.K) (hu : X.A.units + 64 < cLine) : DOp D X (compareOp .Eq) gEq := fun pins s σ ca H x y u1 u2 wx wy w Q I r1 r2 p1 p2 e q => by
  obtain ⟨k, e1, rfl⟩ := Option.map_eq_some_iff.mp e
  exact eq_any hK hu I r1 r2 p1 p2 e1 ⟨.bl k, H, I, rfl, q _ H (fun _ _ h => h) rp_bool⟩
theorem dop_ne (hK : D.K = X.K) (hu : X.A.units + 64 < cLine) : DOp D X (compareOp .NotEq) gNe := fun pins s σ ca H x y u1 u2 wx wy w Q I r1 r2 p1 p2 e q => by
  obtain ⟨k, e1, rfl⟩ := Option.map_eq_some_iff.mp e
  exact ne_any hK hu I r1 r2 p1 p2 e1 ⟨.bl (!k), H, I, rfl, q _ H (fun _ _ h => h) rp_bool⟩
def isNone : W → Bool
  | .none => true
  | _ => false
def inSeq (x y : W) : Option Bool := match itemsOf y with
  | some ys => if (x.canLay0 && PyData.canLayAll0 ys && (Nat.ble x.depth 60 || Nat.ble (PyData.depthAll ys) 60)) = true then some (ys.any fun z => PyData.eqv z x) else none
  | none => none
def inStr : W → W → Option Bool
  | .str x, .str y => some (!(Builtin.Str.occurrences y x 0 y.length 1).isEmpty)
  | _, _ => none
def inW (x y : W) : Option Bool := (inSeq x y).or (inStr x y)
def gIn (a b : W) : Option W := (inW a b).map .bool
def gNotIn (a b : W) : Option W := (inW a b).map fun k => .bool (!k)
open PySem.W in
def gLt : W → W → Option W
  | .int a, .int b => some (.bool (decide (a < b)))
  | a, b => if (alike a b && !isNone a && shallow a b && a.canLay0 && b.canLay0) = true then some (.bool (dataLt a b)) else none
end
end DL
namespace DL
open PySem PySem.Spec PyProof.Rows L2
section
variable {D : DC} {Wx : WX} {X : Cx} {a b e : Expr} {ma mb : EM} {pos : Pos}
def atW : W → W → Option W
  | .tuple xs, .int i => atI xs i
  | .list xs, .int i => atI xs i
  | .str z, .int i => if szOk z.length = true then (atI z.cps.toList i).map fun c => .str ⟨#[c]⟩ else none
  | _, _ => none
theorem RpAll.atI {K : PySem.W.Frag} {ca : CA} {H : Hp} {xs : List W} {vs : List V} {i : Int} {x : W} (r : RpAll K ca H xs vs) (h : L2.atI xs i = some x) : ∃ v, L2.atI vs i = some v ∧ Rp K ca H x v := by
  unfold L2.atI at h ⊢
  rw [r.length]
  cases e : ixN xs.length i with
  | none => rw [e] at h; cases h
  | some j =>
    rw [e] at h
    exact r.get h
abbrev OM := MS → R (Option Int)
def RdO (D : DC) (Wx : WX) (m : OM) : TO := fun σ H Q => ∃ ca ms, Rel D ca σ H ms ∧ Po D Wx σ ca H (m ms) (fun o ms' => ∀ ca' H', Ext ca H ca' H' → Rel D ca' σ H' ms' → Q o H')
theorem PO.mono {X : Cx} {e : Option Expr} {t t' : TO} (h : PO X e t) (f : ∀ σ H Q, t' σ H Q → t σ H Q) : PO X e t' := ⟨fun pins s σ H Q I hw => h.run pins s σ H Q I (f σ H Q hw)⟩
def oNone : OM := fun m => .ok none m
def oSome (a : EM) : OM := fun m => (a m).bind fun x m => match x with
  | .int i => .ok (some i) m
  | _ => .bad
theorem RdO.bind {D : DC} {Wx : WX} {σ : L2.St} {ca : CA} {H : Hp} {ms : MS} {ma : OM} {β : Type} {f : Option Int → MS → R β} {P : β → MS → Prop} {Q : Option Int → Hp → Prop} (r : Rel D ca σ H ms) (h : Po D Wx σ ca H ((ma ms).bind f) P)
    (q : ∀ o ms1 ca1 H1, Ext ca H ca1 H1 → Rel D ca1 σ H1 ms1 → Po D Wx σ ca H (f o ms1) P → Q o H1) : RdO D Wx ma σ H Q := by
  refine ⟨ca, ms, r, ?_⟩
  cases e : ma ms with
  | ok w ms1 =>
    rw [e] at h
    exact fun ca1 H1 x1 r1 => q w ms1 ca1 H1 x1 r1 h
  | err c fs m =>
    rw [e] at h
    exact h
  | bad =>
    rw [e] at h
    exact h
def cutW (xs : List W) (lo hi : Option Int) : List W := (xs.drop (HT.sIx xs.length 0 lo)).take (HT.sIx xs.length xs.length hi - HT.sIx xs.length 0 lo)
end
end DL
namespace DL
open PySem PySem.Spec PyProof.Rows L2
section
variable {D : DC} {Wx : WX} {X : Cx} {a b e : Expr} {ma mb : EM} {pos p p2 : Pos}
def tyN : W → Option String
  | .none => some "NoneType"
  | .bool _ => some "bool"
  | .int _ => some "int"
  | .str _ => some "str"
  | .list _ => some "list"
  | .tuple _ => some "tuple"
  | .dict [(.none, .int _)] => none
  | .dict ((.bool true, _) :: _) => none
  | .dict _ => some "dict"
def isiT (a T : String) : Bool := a == T || (a == "bool" && T == "int")
def eIsi (T : String) (a : EM) : EM := fun m => (a m).bind fun x m => opt ((tyN x).map fun n => .bool (isiT n T)) m
theorem tyN_rp {K : PySem.W.Frag} {ca : CA} {H : Hp} {w : W} {v : V} {n : String} (h : Rp K ca H w v) (e : tyN w = some n) : TyX K H v (.type n) := by
  cases w with
  | none => cases e; rw [h.none]; exact .base .non
  | bool k => cases e; rw [h.bool]; exact .base (.bl k)
  | int k => cases e; rw [h.int]; exact .base (.int k)
  | str k => cases e; rw [h.str]; exact .base (.str k)
  | list xs =>
    cases e
    obtain ⟨a, vs, rfl, f, r⟩ := h.lst
    rcases f with ⟨o, f⟩ | ⟨its, m, f, _⟩
    · exact .base (.frz f)
    · exact .kList f rfl
  | tuple xs =>
    cases e
    obtain ⟨a, vs, rfl, f, r⟩ := h.tup
    rcases f with ⟨o, f, _⟩ | ⟨o, its, m, f, c, _⟩
    · exact .fTuple f
    · exact .kTuple f c
  | dict kvs =>
    simp only [Rp] at h
    rcases h with ⟨k, a, as, rfl, _, rfl⟩ | ⟨a, ps, rfl, f, r⟩ | h
    · cases e
    rotate_left
    · obtain ⟨m, r, a, xs, rfl, _⟩ := h.inv
      cases e
    · have e' : n = "dict" := by
        unfold tyN at e
        split at e <;> simp_all
      subst e'
      obtain ⟨o, f⟩ := f
      exact .fDict f
def isiKinds : List String := ["NoneType", "bool", "int", "str", "list", "tuple", "dict"]
theorem tyN_mem {w : W} {n : String} (e : tyN w = some n) : n ∈ isiKinds := by
  unfold tyN at e
  split at e <;> first | (cases e; simp [isiKinds]) | cases e
def intsOf : List W → Option (List Int)
  | [] => some []
  | .int b :: r => (intsOf r).map (b :: ·)
  | _ :: _ => none
theorem intsOf_rp {K : PySem.W.Frag} {ca : CA} {H : Hp} : ∀ {xs : List W} {vs : List V} {bs : List Int}, RpAll K ca H xs vs → intsOf xs = some bs → vs = bs.map V.int
  | [], vs, bs, h, e => by simp only [RpAll] at h; subst h; cases e; rfl
  | x :: xs, vs, bs, h, e => by
    simp only [RpAll] at h
    obtain ⟨v, r, rfl, h1, h2⟩ := h
    cases x with
    | int b =>
      obtain ⟨cs, e1, rfl⟩ := Option.map_eq_some_iff.mp (show (intsOf xs).map (b :: ·) = some bs from e)
      rw [h1.int, intsOf_rp h2 e1]; rfl
    | _ => cases e
theorem rp_ints {K : PySem.W.Frag} {ca : CA} {H : Hp} : ∀ {bs : List Int}, RpAll K ca H (bs.map PyData.int) (bs.map V.int)
  | [] => by simp [RpAll]
  | x :: xs => by
    simp only [List.map_cons, RpAll]
    exact ⟨_, _, rfl, rp_int, rp_ints⟩
theorem dcall_of {f : Value} {g : List W → Option W} {r : List V → Hp → VK → Prop} (ho : CallR X f r) (h : ∀ ca H xs ws w Q, RpAll D.K ca H ws xs → g ws = some w → (∀ v H', Same H H' → Rp D.K ca H' w v → Q v H') → r xs H Q) : DCall D X f g :=
  fun pins s σ ca H xs us ws w Q I r1 p1 e q => ho pins s σ H xs us Q I r1 (h ca H xs ws w Q p1 e q)
theorem dcallF_of {f : Value} {g : List W → Option (List W)} {r : List V → Hp → VK → Prop} (ho : CallR X f r) (h : ∀ ca H xs ws w Q, RpAll D.K ca H ws xs → g ws = some w → (∀ p vs, H p = none → RpAll D.K ca H w vs → Q (.ref p) (upd H p (.lst vs))) → r xs H Q) : DCallF D X f g :=
  fun pins s σ ca H xs us ws w Q I r1 p1 e q => ho pins s σ H xs us Q I r1 (h ca H xs ws w Q p1 e q)
theorem RpAll.inv1 {K : PySem.W.Frag} {ca : CA} {H : Hp} {x : W} {vs : List V} (h : RpAll K ca H [x] vs) : ∃ v, vs = [v] ∧ Rp K ca H x v := by
  simp only [RpAll] at h
  obtain ⟨v, r, rfl, h1, rfl⟩ := h
  exact ⟨v, rfl, h1⟩
theorem RpAll.inv2 {K : PySem.W.Frag} {ca : CA} {H : Hp} {x y : W} {vs : List V} (h : RpAll K ca H [x, y] vs) : ∃ v u, vs = [v, u] ∧ Rp K ca H x v ∧ Rp K ca H y u := by
  simp only [RpAll] at h
  obtain ⟨v, r, rfl, h1, u, r2, rfl, h2, rfl⟩ := h
  exact ⟨v, u, rfl, h1, h2⟩
def gLen : List W → Option W
  | [.list xs] => some (.int xs.length)
  | [.tuple xs] => some (.int xs.length)
  | [.str z] => if szOk z.length = true then some (.int z.length) else none
  | _ => none
theorem dc_len (hK : D.K = X.K) : DCall D X (.builtin "len") gLen := dcall_of (call_len_seq.or call_len_str) fun ca H xs ws w Q p1 e q => by
  unfold gLen at e
  split at e
  · cases e
    obtain ⟨v, rfl, h1⟩ := p1.inv1
    obtain ⟨a, vs, rfl, f, r⟩ := h1.lst
    refine .inl ⟨a, vs, rfl, .inl (by rw [← hK]; exact f.sq), ?_⟩
    rw [r.length]
    exact q _ H (fun _ _ h => h) rp_int
  · cases e
    obtain ⟨v, rfl, h1⟩ := p1.inv1
    obtain ⟨a, vs, rfl, f, r⟩ := h1.tup
    refine .inl ⟨a, vs, rfl, .inr (by rw [← hK]; exact f.sq), ?_⟩
    rw [r.length]
    exact q _ H (fun _ _ h => h) rp_int
  · rename_i z
    obtain ⟨v, rfl, h1⟩ := p1.inv1
    by_cases hz : szOk z.length = true
    · rw [if_pos hz] at e
      cases e
      rw [h1.str]
      exact .inr ⟨z, rfl, szOk_le hz, q _ H (fun _ _ h => h) rp_int⟩
    · rw [if_neg hz] at e; cases e
  · cases e
def gTuple : List W → Option W
  | [.list xs] => some (.tuple xs)
  | [.tuple xs] => some (.tuple xs)
  | _ => none
def gList : List W → Option (List W)
  | [.list xs] => some xs
  | [.tuple xs] => some xs
  | _ => none
theorem dc_list (hK : D.K = X.K) : DCallF D X (.type "list") gList := dcallF_of call_list_of fun ca H xs ws w Q p1 e q => by
  unfold gList at e
  split at e
  · cases e
    obtain ⟨v, rfl, h1⟩ := p1.inv1
    obtain ⟨a, vs, rfl, f, r⟩ := h1.lst
    exact ⟨a, vs, rfl, .inl (by rw [← hK]; exact f.sq), fun l nl => q l vs nl r⟩
  · cases e
    obtain ⟨v, rfl, h1⟩ := p1.inv1
    obtain ⟨a, vs, rfl, f, r⟩ := h1.tup
    exact ⟨a, vs, rfl, .inr (by rw [← hK]; exact f.sq), fun l nl => q l vs nl r⟩
  · cases e
def gInt : List W → Option W
  | [.int i] => some (.int i)
  | [.bool b] => some (.int (if b then 1 else 0))
  | _ => none
theorem dc_int : DCall D X (.type "int") gInt := dcall_of call_int1 fun ca H xs ws w Q p1 e q => by
  unfold gInt at e
  split at e
  · cases e
    obtain ⟨v, rfl, h1⟩ := p1.inv1
    exact .inl ⟨_, by rw [h1.int], q _ H (fun _ _ h => h) rp_int⟩
  · cases e
    obtain ⟨v, rfl, h1⟩ := p1.inv1
    exact .inr ⟨_, by rw [h1.bool], q _ H (fun _ _ h => h) rp_int⟩
  · cases e
def gMin2 : List W → Option W
  | [.int i, .int j] => some (.int (if j < i then j else i))
  | _ => none
theorem dc_min2 (hc : X.calm = true) : DCall D X (.builtin "min") gMin2 := dcall_of (call_min2 hc) fun ca H xs ws w Q p1 e q => by
  unfold gMin2 at e
  split at e
  · cases e
    obtain ⟨v, u, rfl, h1, h2⟩ := p1.inv2
    exact ⟨_, _, by rw [h1.int, h2.int], q _ H (fun _ _ h => h) rp_int⟩
  · cases e
def DOpF (D : DC) (X : Cx) (f : Value → Value → Sem Value) (g : W → W → Option (List W)) : Prop :=
  ∀ (pins : List (Addr × Obj)) (s : Shared) (σ : L2.St) (ca : CA) (H : Hp) (x y : V) (u1 u2 : Value) (wx wy : W) (w : List W) (Q : VK), Inv X pins σ H s → RelV x u1 → RelV y u2 → Rp D.K ca H wx x → Rp D.K ca H wy y → g wx wy = some w →
    (∀ p vs, H p = none → RpAll D.K ca H w vs → Q (.ref p) (upd H p (.lst vs))) → wpAny (model X.prog X.w) X.A (f u1 u2) (EP X pins σ Q) X.xe s
def fBin (g : W → W → Option (List W)) (a b : EM) : LM := fun m => (a m).bind fun x m => (b m).bind fun y m => opt (g x y) m
def gCatL : W → W → Option (List W)
  | .list xs, .list ys => if szOk (xs.length + ys.length) = true then some (xs ++ ys) else none
  | _, _ => none
theorem dop_catL (hK : D.K = X.K) : DOpF D X (binaryOp .Add) gCatL := fun pins s σ ca H x y u1 u2 wx wy w Q I r1 r2 p1 p2 e q => by
  unfold gCatL at e
  split at e
  · rename_i xs ys
    by_cases hz : szOk (xs.length + ys.length) = true
    · rw [if_pos hz] at e
      cases e
      have hz := szOk_le hz
      obtain ⟨a, vs, rfl, f1, ra⟩ := p1.lst
      obtain ⟨b, us, rfl, f2, rb⟩ := p2.lst
      cases r1
      cases r2
      obtain ⟨z, its, n, rv, hl, e⟩ := DL.Inv.fzl I (by rw [← hK]; exact f1)
      obtain ⟨z2, its2, n2, rv2, hl2, e2⟩ := DL.Inv.fzl I (by rw [← hK]; exact f2)
      have hlen : its.length + its2.length ≤ sizeLine := by rw [← hl, ← hl2, ra.length, rb.length]; exact hz
      refine PySem.P.add_list e e2 ?_ (by rw [List.size_toArray, List.size_toArray]; exact hlen)
      have ea : its.toArray ++ its2.toArray = (its ++ its2).toArray := by simp
      rw [ea]
      exact ⟨.ref _, _, I.lnew (t' := s.toks) (rv.append rv2) (by rw [List.length_append, ra.length, rb.length]; exact hz), rfl, q _ _ I.fresh (ra.append rb)⟩
    · rw [if_neg hz] at e; cases e
  · cases e
/-- a list times an int -/
def repOk (n : Nat) (k : Int) : Bool := Nat.ble k.natAbs 1000000 && szOk (n * k.toNat)
def gRepL : W → W → Option (List W)
  | .list xs, .int k => if repOk xs.length k = true then some (List.replicate k.toNat xs).flatten else none
  | _, _ => none
theorem fold_rep (its : List Value) (m : Nat) : List.foldl (fun a b => a ++ b) #[] (List.replicate (if its.toArray.isEmpty = true then 0 else m) its.toArray) = (List.replicate m its).flatten.toArray := by
  have h : ∀ j, List.foldl (fun a b => a ++ b) #[] (List.replicate j its.toArray) = (List.replicate j its).flatten.toArray := fun j => by
    have e := foldl_rep its j []
    simpa using e
  cases its with
  | nil => rw [h]; simp
  | cons y ys => rw [if_neg (by simp)]; exact h m
theorem dop_repL (hK : D.K = X.K) : DOpF D X (binaryOp .Mult) gRepL := fun pins s σ ca H x y u1 u2 wx wy w Q I r1 r2 p1 p2 e q => by
  unfold gRepL at e
  split at e
  · rename_i xs k
    by_cases hz : repOk xs.length k = true
    · rw [if_pos hz] at e
      cases e
      unfold repOk at hz
      rw [Bool.and_eq_true] at hz
      have hk := Nat.le_of_ble_eq_true hz.1
      have hz2 := szOk_le hz.2
      obtain ⟨a, vs, rfl, f1, ra⟩ := p1.lst
      obtain rfl := p2.int
      cases r1
      obtain ⟨t, rfl⟩ := r2
      obtain ⟨z, its, n, rv, hl, e⟩ := DL.Inv.fzl I (by rw [← hK]; exact f1)
      have hz3 : its.length * k.toNat ≤ sizeLine := by rw [← hl, ra.length]; exact hz2
      have ty : s.TypeIs (.ref a) "list" := ⟨_, e, rfl⟩
      have road := AutoListH.list___mul___list_int_3 a its.toArray n k t (by rw [fitsIndex_both (by omega) (by omega)]; exact Bool.false_ne_true)
        (by have : (sizeLine : Nat) ≤ (2 ^ 63 - 1) / 8 := by decide
            rw [List.size_toArray]; omega) (by rw [List.size_toArray, notLongL hz3]; exact Bool.false_ne_true)
      have last : EP X pins σ Q (.ref s.heap.objs.size) { s with heap := s.heap.push { cls := .type "list", data := .seq (List.replicate k.toNat its).flatten.toArray } } :=
        ⟨.ref s.heap.objs.size, _, I.lnew (t' := s.toks) (rv.rep k.toNat) (by rw [PyProof.Rows.lm_len_rep_flat, ra.length, Nat.mul_comm]; exact hz2), rfl, q _ _ I.fresh (ra.rep k.toNat)⟩
      rw [← fold_rep] at last
      refine wpAny_binaryOp_repeat_ref (T := "list") (U := "int") (by decide) ty (fun s' => typeIs_int s' k t) noFill_list_mul F.fills_int_mul F.slot_int_rmul repeat_list F.slot_int_index.lookup ?_
      refine call_meets F.slot_int_rmul (typeIs_int s k t) F.entry_int_rmul (F.args_int_rmul_2 _ _) (int___rmul___int_list k t a its.toArray n) ⟨e, rfl, ty, ?_⟩
      exact call_meets F.slot_list_mul ty F.entry_list_mul (F.args_list_mul_2 _ _) road ⟨e, last⟩
    · rw [if_neg hz] at e; cases e
  · cases e
def gRepT : W → W → Option W
  | .tuple xs, .int k => if (decide (2 ≤ k) && decide (k ≤ 1000) && Nat.ble 1 xs.length && Nat.ble xs.length 1000) = true then some (.tuple (List.replicate k.toNat xs).flatten) else none
  | _, _ => none
def rRepS (K : PySem.W.Frag) : R2 := fun x y H Q => ∃ l k xs, x = .ref l ∧ y = .int k ∧ SqT K H l xs ∧ xs ≠ [] ∧ 2 ≤ k ∧ k ≤ 1000 ∧ xs.length ≤ 1000 ∧ NewT H (List.replicate k.toNat xs).flatten Q
theorem op_repS : OpR X (binaryOp .Mult) (rRepS X.K) := fun pins s σ H x y v u Q I rx ry ⟨l, k, xs, ex, ey, hT, hne, h1, h2, hz, q⟩ => by
  subst ex ey
  cases rx
  obtain ⟨t, rfl⟩ := ry
  obtain ⟨its, r, ⟨⟨cls, dd, data, sl⟩, ho, hc, n, hd⟩, hs⟩ := I.tuple hT
  simp only at hc hd
  subst hc hd
  have hle : its.length = xs.length := r.length.symm
  have hn : its ≠ [] := fun e => hne (List.eq_nil_of_length_eq_zero (by rw [← hle, e]; rfl))
  have hi : its.toArray.isEmpty = false := by
    cases its with
    | nil => exact absurd rfl hn
    | cons a b => rfl
  have hsz : its.toArray.size = xs.length := by rw [List.size_toArray, hle]
  have hb : xs.length * k.toNat ≤ 1000000 := by
    have := Nat.mul_le_mul hz (show k.toNat ≤ 1000 by omega)
    omega
  have hm : ((its.toArray.size : Nat) : Int) * k ≤ 1000000 := by
    have e : ((its.toArray.size : Nat) : Int) * k = ((xs.length * k.toNat : Nat) : Int) := by rw [hsz, Int.natCast_mul, Int.toNat_of_nonneg (by omega)]
    omega
  have fl : (List.replicate k.toNat its).flatten.length ≤ sizeLine := by
    rw [PyProof.Rows.lm_len_rep_flat, hle, sizeLine_eq, Nat.mul_comm]
    omega
  refine wpAny_binaryOp_repeat_ref (T := "tuple") (U := "int") (by decide) ⟨_, ho, rfl⟩ (fun s' => typeIs_int s' k t) noFill_tuple_mul F.fills_int_mul F.slot_int_rmul repeat_tuple F.slot_int_index.lookup
    (call_meets F.slot_int_rmul (typeIs_int s k t) F.entry_int_rmul (F.args_int_rmul_2 _ _) (int_rmul_tuple k t l its.toArray n dd sl) ⟨ho, rfl, ⟨_, ho, rfl⟩, call_meets F.slot_tuple_mul ⟨_, ho, rfl⟩ F.entry_tuple_mul (F.args_tuple_mul_2 _ _)
      (tuple_mulW l its.toArray n dd sl k t (by rw [decide_eq_false (by omega), decide_eq_false (by omega)] <;> rfl) (by rw [hi, Bool.false_or]; exact beq_eq_false_iff_ne.mpr (by omega)) (by rw [hi, Bool.or_false]; exact decide_eq_false (by omega)) (by omega)
        (by unfold Builtin.Tuple.tupleTooMany; rw [sizeLine_eq]; exact decide_eq_false (by omega)) (by rw [size_rep, List.size_toArray]; exact fl)) ⟨ho, ?_⟩⟩)
  rw [size_rep]
  exact q.ep I (r.rep k.toNat) (by rw [PyProof.Rows.lm_len_rep_flat, sizeLine_eq, Nat.mul_comm]; omega)
theorem dop_repT (hK : D.K = X.K) : DOp D X (binaryOp .Mult) gRepT := dop_of op_repS fun ca H x y wx wy w Q p1 p2 e q => by
  unfold gRepT at e
  split at e
  · rename_i xs k
    by_cases hz : (decide (2 ≤ k) && decide (k ≤ 1000) && Nat.ble 1 xs.length && Nat.ble xs.length 1000) = true
    · rw [if_pos hz] at e
      cases e
      simp only [Bool.and_eq_true, decide_eq_true_eq] at hz
      obtain ⟨⟨⟨h1, h2⟩, h3⟩, h4⟩ := hz
      have h3 := Nat.le_of_ble_eq_true h3
      have h4 := Nat.le_of_ble_eq_true h4
      obtain ⟨a, vs, rfl, f, ra⟩ := p1.tup
      refine ⟨a, k, vs, rfl, p2.int, by rw [← hK]; exact f.sq, fun z => by rw [z] at ra; have := ra.length; simp at this; omega, h1, h2, by rw [ra.length]; exact h4, fun p o np od => ?_⟩
      have g := Same.upd_new (o := .frz o (.tup (List.replicate k.toNat vs).flatten)) np
      exact q _ _ g (rp_tup (fzt_new od) (RpAll.mono (.of_same g) _ _ (ra.rep _)))
    · rw [if_neg hz] at e; cases e
  · cases e
def gMul : W → W → Option W := fun a b => (gMulI a b).or (gRepT a b)
theorem dop_mul (hK : D.K = X.K) : DOp D X (binaryOp .Mult) gMul := dop_mulI.or (dop_repT hK)
end
end DL
namespace DL
open PySem PySem.Spec PyProof.Rows L2
/-- records of ours have turned -/
theorem turnedL {X : Cx} {pins : List (Addr × Obj)} {σ : L2.St} {H : Hp} {s : Shared} {h' : Heap} {t' : Nat} {ch : List Addr} (I : Inv X pins σ H s) (k : ∀ b o, b ∉ ch → s.heap.get? b = some o → h'.get? b = some o) (hf : ∀ b ∈ ch, FpOk X pins H b) :
    Inv X pins σ H { s with heap := h', toks := t' } := by
  have nit : ∀ b u, H b = some u → b ∉ ch := fun b u e z => by rw [(hf b z).1] at e; cases e
  refine I.step (g' := s.gens) (d' := s.drawn) (ch := ch) (fun b hb => ?_) (fun b o _ _ hc e _ => k b o hc e) (fun b o _ _ hc e _ => ⟨o.slots, k b o hc e⟩) (fun _ _ _ _ n => n) (fun b o hc e => ⟨o, k b o hc e⟩) (fun _ _ e => e) (fun _ _ _ e => e)
    (fun b ps e => ⟨#[], by rw [e]; simp⟩) (fun m hm => ?_) (fun b u e => ?_) I.bare
  · obtain ⟨_, f1, _, f3, f4, f5⟩ := hf b hb
    exact ⟨f3, f1, f4, f5⟩
  · obtain ⟨o, es, ep, ho, r⟩ := hm
    exact ⟨o, es, ep, k _ o (fun z => (hf _ z).2.1 rfl) ho, r⟩
  · refine (I.hok b u e).stay (fun c v hc q => k c v ?_ q) (fun _ q => q) fun _ _ q => q
    rcases hc with z | z
    · rw [z]; exact nit b u e
    · exact nit c _ z
/-- n new pairs, while Fz holds -/
def Itp (n : Nat) (Fz : Hp → Prop) (PV : Nat → V → V → Prop) : It :=
  ⟨fun i H => i < n ∧ Fz H, fun i H v H' => ∃ T x y, v = .ref T ∧ H T = none ∧ H' = upd H T (.tup [x, y]) ∧ PV i x y, fun i H => i = n ∧ Fz H⟩
theorem turn_pairs {P : Program} {w : World} {K : PySem.W.Frag} {tg : Expr} {I : Addr} {recs wr fp : List Addr} {n : Nat} {ζ : Type} {Rec : Nat → Heap → Prop} {Sq : ζ → Heap → Prop} {Ok : ζ → Prop} {Fz : Hp → Prop} {Pa : ζ → Nat → Value → Value → Prop} {PV : Nat → V → V → Prop}
    (mem : I ∈ recs) (sub : ∀ b ∈ wr, b ∈ recs) (obj : ∀ i h, Rec i h → ∀ b ∈ recs, ∃ o, h.get? b = some o ∧ ∀ v, o.data ≠ .cell v) (keep : ∀ i h h', Rec i h → (∀ b ∈ recs, ∀ o, h.get? b = some o → h'.get? b = some o) → Rec i h')
    (hW : ∀ (A : Around) (z : ζ), A.handled = none → Ok z → GoesN P w A tg I fp wr n (fun i h₀ v h => ∃ T a b, v = .ref T ∧ h₀.objs.size ≤ T ∧ Pa z i a b ∧ h.IsTuple T #[a, b]) (fun i h => Rec i h ∧ Sq z h))
    (hz : ∀ (X : Cx) pins σ H s (i : Nat), X.prog = P → X.w = w → X.K = K → Inv X pins σ H s → (∀ b ∈ recs, H b = none) → Rec i s.heap → Fz H → ∃ z, Ok z ∧ Sq z s.heap ∧ ∀ i a b, Pa z i a b → ∃ x y, RelV x a ∧ RelV y b ∧ PV i x y)
    (self : ∀ (A : Around) (i : Nat) (s : Shared) (Q : Value → Shared → Prop) (E : Value → Shared → Prop), Rec i s.heap → Q (.ref I) s → wpAny (model P w) A (pyIter (.ref I)) Q E s) :
    Turn P w K tg (Itp n Fz PV) recs I Rec where
  mem := mem
  obj := obj
  keep := keep
  self := self
  item := by
    intro X hP hw hK hc i pins s σ H E J hf st hg
    obtain ⟨hi, fz⟩ := hg
    obtain ⟨z, ok, sq, rel⟩ := hz X pins σ H s _ hP hw hK J (fun b hb => (hf b hb).1) st fz
    refine (hW X.A z (J.ok.hd hc) ok).goes i s (fun u s2 => ∃ x H', Inv X pins σ H' s2 ∧ RelV x u ∧ (Itp n Fz PV).yld i H x H' ∧ Rec (i + 1) s2.heap ∧ ∀ b ∈ recs, H' b = none) E hi ⟨st, sq⟩ fun v h' tk hY st' hk _ => ?_
    obtain ⟨T, a, b, rfl, hT, hp, hTT⟩ := hY
    obtain ⟨x, y, rx, ry, pv⟩ := rel i a b hp
    have hn : H T = none := J.hok.fresh hT
    have new : ObjOk X.prog X.w (upd H T (.tup [x, y])) h' T (.tup [x, y]) := ⟨by show 2 ≤ sizeLine; decide, [a, b], .cons rx (.cons ry .nil), hTT⟩
    have J1 : Inv X pins σ (upd H T (.tup [x, y])) { s with heap := h', toks := tk } := J.turnedNew (ch := wr) hk (fun b hb => hf b (sub b hb)) hT new
    refine ⟨.ref T, _, J1, rfl, ⟨T, x, y, rfl, hn, rfl, pv⟩, st'.1, fun b hb => ?_⟩
    obtain ⟨o, ho, _⟩ := obj _ _ st b hb
    rw [upd_ne (Nat.ne_of_lt (Nat.lt_of_lt_of_le (Heap.lt_size ho) hT))]
    exact (hf b hb).1
  done := by
    intro X hP hw hK hc i pins s σ H E J hf st hg
    obtain ⟨rfl, fz⟩ := hg
    obtain ⟨z, ok, sq, rel⟩ := hz X pins σ H s _ hP hw hK J (fun b hb => (hf b hb).1) st fz
    exact (hW X.A z (J.ok.hd hc) ok).stops s (fun s1 => Inv X pins σ H s1) E ⟨st, sq⟩ fun h' tk hk _ => turnedL J hk fun b hb => hf b (sub b hb)
theorem GoesN.st {prog : Program} {w : World} {A : Around} {target : Expr} {I : Addr} {fp wr : List Addr} {n n' : Nat} {Y : Nat → Heap → Value → Heap → Prop} {St St' : Nat → Heap → Prop} (W : GoesN prog w A target I fp wr n Y St) (hn : n = n') (e : ∀ i h, St i h ↔ St' i h) : GoesN prog w A target I fp wr n' Y St' := by
  subst hn
  exact ⟨W.sub, fun i h h' st k => (e _ _).mp (W.frame i h h' ((e _ _).mpr st) k), fun i s Q E hi st q => W.goes i s Q E hi ((e _ _).mpr st) fun v h' tk y st' => q v h' tk y ((e _ _).mp st'), fun s Q E st => W.stops s Q E ((e _ _).mpr st), fun i s Q E st => W.self i s Q E ((e _ _).mpr st)⟩
theorem enum_new1 {v : Value} {o : Obj} {Hc : Heap → Prop} (B : Begins v o Hc) :
    Meets (Builtin.«enumerate.__new__» ⟨[.type "enumerate", v], []⟩) (fun _ R s => Hc s.heap ∧
      R (.ok (.ret (.ref (s.heap.push o).objs.size))) { s with heap := (s.heap.push o).push { cls := .type "enumerate", data := .fields #[.none, .bool false, .ref s.heap.objs.size, rawInt 0, .none, .none] } }) :=
  .of_wp fun prog w A R s h => by
    obtain ⟨hp, g, d, tk, os⟩ := s
    obtain ⟨h1, h⟩ := h
    have hsub := sub_enumerate
    have q1 : ∀ {A' : Around} {E : Value → Shared → Prop} {Q : Value → Shared → Prop}, Q (.ref hp.objs.size) ⟨hp.push o, g, d, tk, os⟩ → wpAny (model prog w) A' (pyIter v) Q E ⟨hp, g, d, tk, os⟩ := fun q => B.iter prog w _ _ ⟨hp, g, d, tk, os⟩ _ h1 q
    wp_walk using q1
    refine wpAny_stack_any fun st => wpAny_pure ?_
    split
    · rename_i c _ _ _ _ _
      cases (c == Value.type "enumerate") <;> (wp_walk using q1; exact ⟨_, rfl, h⟩)
    · wp_walk using q1
      exact ⟨_, rfl, h⟩
theorem enum_call1 {prog : Program} {w : World} {A : Around} {E : Value → Shared → Prop} {s : Shared} {v : Value} {o : Obj} {Hc : Heap → Prop} {Q : Value → Shared → Prop} (B : Begins v o Hc) (h1 : Hc s.heap)
    (h : ∀ h', IsEnum h' (s.heap.objs.size + 1) s.heap.objs.size 0 .none → h'.get? s.heap.objs.size = some o → h'.objs.size = s.heap.objs.size + 2 → (∀ b o, s.heap.get? b = some o → h'.get? b = some o) → Q (.ref (s.heap.objs.size + 1)) { s with heap := h' }) :
    wpAny (model prog w) A (call (.type "enumerate") [v]) Q E s := by
  have hz : (s.heap.push o).objs.size = s.heap.objs.size + 1 := Heap.size_push ..
  generalize hen : ({ cls := .type "enumerate", data := .fields #[.none, .bool false, .ref s.heap.objs.size, rawInt 0, .none, .none] } : Obj) = en
  have he : ((s.heap.push o).push en).get? (s.heap.objs.size + 1) = some en := by
    rw [← hz]
    exact Heap.get?_push_size _ (by rw [← hen]; rfl)
  refine callType_new F.called_enumerate (by decide) (F.typeCall_enumerate_1 _) (F.newCall_enumerate_1 _) (fun obj => F.args_object_init_2 obj _) F.entry_enumerate_new (enum_new1 B) ⟨h1, ?_⟩
  show _ ∧ _
  rw [hz, hen]
  exact ⟨⟨_, he, by rw [← hen]⟩, h _ (by unfold IsEnum; rw [he, ← hen]) (Heap.get?_push_of_some _ (Heap.get?_push_size _ B.free)) (by rw [Heap.size_push, hz]) fun b o x => Heap.get?_push_of_some _ (Heap.get?_push_of_some _ x)⟩
/-- what is read: a list (true), a tuple -/
def SqK (K : PySem.W.Frag) (H : Hp) (k : Bool) (a : Addr) (vs : List V) : Prop := if k = true then SqL K H a vs else SqT K H a vs
def itO (k : Bool) (a : Addr) : Obj := if k = true then { cls := .type "list_iterator", data := .fields #[.ref a, .int 0 0] } else { cls := .type "tuple_iterator", data := .fields #[.ref a, .int 0 0] }
def isK (k : Bool) (h : Heap) (a : Addr) (its : Array Value) : Prop := if k = true then h.IsList a its else h.IsTuple a its
def iterK (k : Bool) (h : Heap) (it a : Addr) (i : Nat) : Prop := if k = true then h.IsListIter it a i else h.IsTupleIter it a i
theorem begK (k : Bool) (a : Addr) (its : Array Value) : Begins (.ref a) (itO k a) fun h => isK k h a its := by
  cases k with
  | true => exact begins_list a its
  | false => exact begins_tuple a its
theorem drawsK {prog : Program} {w : World} {A : Around} (hh : A.handled = none) (k : Bool) (it a : Addr) (hne : a ≠ it) (its : Array Value) : Draws prog w A it [it, a] its.size (fun i v => its[i]? = some v) (fun i h => iterK k h it a i ∧ isK k h a its) := by
  cases k with
  | true => exact Draws.list hh it a hne its
  | false => exact Draws.tuple hh it a hne its
theorem iterK_obj {k : Bool} {h : Heap} {it a : Addr} {i : Nat} (x : iterK k h it a i) : ∃ o, h.get? it = some o ∧ ∀ v, o.data ≠ .cell v := by
  cases k with
  | true => obtain ⟨o, ho, hc, hd⟩ := x; exact ⟨o, ho, fun v q => by rw [hd] at q; cases q⟩
  | false => obtain ⟨o, ho, hc, hd⟩ := x; exact ⟨o, ho, fun v q => by rw [hd] at q; cases q⟩
theorem iterK_at {k : Bool} {h h' : Heap} {it a : Addr} {i : Nat} (x : iterK k h it a i) (e : ∀ o, h.get? it = some o → h'.get? it = some o) : iterK k h' it a i := by
  cases k with
  | true => obtain ⟨o, ho, r⟩ := x; exact ⟨o, e o ho, r⟩
  | false => obtain ⟨o, ho, r⟩ := x; exact ⟨o, e o ho, r⟩
theorem iterK_new {k : Bool} {h : Heap} {it a : Addr} (e : h.get? it = some (itO k a)) : iterK k h it a 0 := by
  cases k with
  | true => exact ⟨_, e, rfl, rfl⟩
  | false => exact ⟨_, e, rfl, rfl⟩
theorem seqK {X : Cx} {pins : List (Addr × Obj)} {σ : L2.St} {H : Hp} {s : Shared} {k : Bool} {a : Addr} {vs : List V} (I : Inv X pins σ H s) (h : SqK X.K H k a vs) : ∃ its : List Value, Vals vs its ∧ isK k s.heap a its.toArray ∧ vs.length ≤ sizeLine := by
  cases k with
  | true => obtain ⟨its, r, p, z⟩ := I.list h; exact ⟨its, r, p.isList, z⟩
  | false => obtain ⟨its, r, p, z⟩ := I.tuple h; exact ⟨its, r, p, z⟩
end DL
namespace DL
open PySem PySem.Spec PyProof.Rows L2
def PVen (lo : Int) (vs : List V) : Nat → V → V → Prop := fun i x y => x = .int (lo + i) ∧ vs[i]? = some y
theorem turn_en {P : Program} {w : World} {K : PySem.W.Frag} {elts : List Expr} {kk : Nat} {tpos : Pos} {lo : Int} {vs : List V} (k : Bool) (a e it : Addr) :
    Turn P w K (.Tuple elts kk tpos) (Itp vs.length (fun H => SqK K H k a vs) (PVen lo vs)) [e, it] e (fun i h => (∃ old, IsEnum h e it (lo + (i : Int)) old) ∧ iterK k h it a i ∧ e ≠ it ∧ a ≠ it ∧ e ≠ a) := by
  have mem2 : ∀ b, b ∈ [e, it] → b = e ∨ b = it := fun b hb => by simpa using hb
  refine turn_pairs (I := e) (recs := [e, it]) (wr := [e, it]) (fp := [e, it, a]) (ζ := List Value) (Sq := fun its h => isK k h a its.toArray) (Ok := fun its => Vals vs its ∧ e ≠ it ∧ a ≠ it ∧ e ≠ a) (Pa := fun its i x y => ∃ t, x = .int (lo + i) t ∧ its[i]? = some y) (by simp) (fun b hb => hb) (fun i h st b hb => ?_) (fun i h h' st kp => ?_) (fun A its hh ok => ?_) (fun X pins σ H s i hP hw hK J hn st fz => ?_) (fun A i s Q E st q => ?_)
  · obtain ⟨⟨old, he⟩, hi, _⟩ := st
    rcases mem2 b hb with rfl | rfl
    · exact ⟨_, he, fun v q => nomatch q⟩
    · exact iterK_obj hi
  · obtain ⟨⟨old, he⟩, hi, hne⟩ := st
    exact ⟨⟨old, kp e (by simp) _ he⟩, iterK_at hi fun o q => kp it (by simp) o q, hne⟩
  · obtain ⟨rv, h1, h2, h3⟩ := ok
    have W := GoesN.enumFrom (elts := elts) (x1 := kk) (pos := tpos) (w := w) (prog := P) lo (drawsK (A := A.in1) hh k it a h2 its.toArray) e h1 (by simp [h1, h3]) (by simp)
    refine GoesN.st (W.mono fun i h0 v h _ ⟨T, t, x, ev, hT, hx, ht⟩ => ⟨T, _, x, ev, hT, ⟨t, rfl, by simpa using hx⟩, ht⟩) (by rw [List.size_toArray]; exact rv.length.symm) fun i h => ⟨fun ⟨a1, a2, a3⟩ => ⟨⟨a1, a2, h1, h2, h3⟩, a3⟩, fun ⟨⟨a1, a2, _⟩, a3⟩ => ⟨a1, a2, a3⟩⟩
  · subst hP hw hK
    obtain ⟨its, rv, p, hz⟩ := seqK J fz
    refine ⟨its, ⟨rv, st.2.2⟩, p, fun i x y hp => ?_⟩
    obtain ⟨t, rfl, hy⟩ := hp
    have hi : i < vs.length := by
      rw [rv.length]
      rcases Nat.lt_or_ge i its.length with h | h
      · exact h
      · rw [List.getElem?_eq_none h] at hy; cases hy
    obtain ⟨u, hu, ru⟩ := rv.get (i := i) (x := vs[i]) (by simp [hi])
    rw [hu] at hy
    cases hy
    exact ⟨.int (lo + i), vs[i], ⟨t, rfl⟩, ru, rfl, by simp [hi]⟩
  · obtain ⟨⟨old, he⟩, _⟩ := st
    exact wpAny_pyIter_enum he q
/-- as Rp; wk: of a tuple whose object is not known (what enumerate, zip, items give) -/
def RpK (wk : Bool) (K : PySem.W.Frag) (ca : CA) (H : Hp) (w : W) (v : V) : Prop := if wk = true then ∃ xs a vs, w = .tuple xs ∧ v = .ref a ∧ H a = some (.tup vs) ∧ RpAll K ca H xs vs else Rp K ca H w v
theorem RpK.mono {wk : Bool} {K : PySem.W.Frag} {ca ca' : CA} {H H' : Hp} {w : W} {v : V} (x : Ext ca H ca' H') (h : RpK wk K ca H w v) : RpK wk K ca' H' w v := by
  cases wk with
  | true =>
    obtain ⟨xs, a, vs, e1, e2, h1, h2⟩ := h
    exact ⟨xs, a, vs, e1, e2, x.kp.tup _ _ h1, RpAll.mono x _ _ h2⟩
  | false => exact Rp.mono x _ _ h
theorem RpK.tup {wk : Bool} {K : PySem.W.Frag} {ca : CA} {H : Hp} {xs : List W} {v : V} (h : RpK wk K ca H (.tuple xs) v) : ∃ a vs, v = .ref a ∧ SqT K H a vs ∧ RpAll K ca H xs vs := by
  cases wk with
  | true =>
    obtain ⟨ys, a, vs, e1, e2, h1, h2⟩ := h
    cases e1
    exact ⟨a, vs, e2, .inl (.inl h1), h2⟩
  | false =>
    obtain ⟨a, vs, e, f, r⟩ := Rp.tup (show Rp K ca H (.tuple xs) v from h)
    exact ⟨a, vs, e, f.sq, r⟩
structure DWalk (wk : Bool) (K : PySem.W.Frag) (J : It) (ca : CA) (H0 : Hp) (xs : List W) : Prop where
  goes : ∀ i H, i < xs.length → Kp H0 H → J.go i H
  stops : ∀ H, Kp H0 H → J.stop xs.length H
  yields : ∀ (i : Nat) H x H' w, Kp H0 H → xs[i]? = some w → J.yld i H x H' → Same H H' ∧ RpK wk K ca H' w x
def RdI (wk : Bool) (D : DC) (Wx : WX) (m : LM) : TI := fun σ H R => ∃ ca ms, Rel D ca σ H ms ∧ Po D Wx σ ca H (m ms) (fun xs ms' => ∀ J ca' H', Ext ca H ca' H' → Rel D ca' σ H' ms' → DWalk wk D.K J ca' H' xs → R J H')
def DI (wk : Bool) (D : DC) (Wx : WX) (X : Cx) (tg iter : Expr) (m : LM) : Prop := PI X tg iter (RdI wk D Wx m)
theorem PI.mono {X : Cx} {tg e : Expr} {t t' : TI} (h : PI X tg e t) (f : ∀ σ H Q, t' σ H Q → t σ H Q) : PI X tg e t' := ⟨fun pins s σ H Q I hw => h.run pins s σ H Q I (f σ H Q hw)⟩
section
variable {D : DC} {Wx : WX} {X : Cx} {tg e e2 : Expr} {ma mb : EM} {mr : LM}
theorem dwalk_list {K : PySem.W.Frag} {ca : CA} {H : Hp} {a : Addr} {vs : List V} {xs : List W} (f : FzL K H a vs) (r : RpAll K ca H xs vs) : DWalk false K (Itl K a) ca H xs :=
  ⟨fun i H' hi k => ⟨vs, vs[i]'(by rw [r.length]; exact hi), (f.mono k).sq, by simp [show i < vs.length by rw [r.length]; exact hi]⟩, fun H' k => ⟨vs, (f.mono k).sq, by rw [r.length]; exact Nat.le_refl _⟩,
    fun i H' x H2 w k e y => by
      obtain ⟨rfl, y⟩ := y
      have r' : RpAll K ca H2 xs vs := RpAll.mono ⟨k, List.prefix_refl ca⟩ _ _ r
      obtain ⟨v, e1, e2⟩ := r'.get e
      have := y vs (f.mono k).sq
      rw [e1] at this
      cases this
      exact ⟨fun _ _ h => h, e2⟩⟩
theorem dwalk_tup {K : PySem.W.Frag} {ca : CA} {H : Hp} {a : Addr} {vs : List V} {xs : List W} (f : FzT K H a vs) (r : RpAll K ca H xs vs) : DWalk false K (Itt K a) ca H xs :=
  ⟨fun i H' hi k => ⟨vs, vs[i]'(by rw [r.length]; exact hi), (f.mono k).sq, by simp [show i < vs.length by rw [r.length]; exact hi]⟩, fun H' k => ⟨vs, (f.mono k).sq, by rw [r.length]; exact Nat.le_refl _⟩,
    fun i H' x H2 w k e y => by
      obtain ⟨rfl, y⟩ := y
      have r' : RpAll K ca H2 xs vs := RpAll.mono ⟨k, List.prefix_refl ca⟩ _ _ r
      obtain ⟨v, e1, e2⟩ := r'.get e
      have := y vs (f.mono k).sq
      rw [e1] at this
      cases this
      exact ⟨fun _ _ h => h, e2⟩⟩
def rngW (lo : Int) (n : Nat) : List W := (List.range n).map fun (i : Nat) => .int (lo + (i : Int))
theorem dwalk_rng {K : PySem.W.Frag} {ca : CA} {H : Hp} {lo : Int} {n : Nat} : DWalk false K (Itr lo n) ca H (rngW lo n) := by
  have hl : (rngW lo n).length = n := by simp [rngW]
  refine ⟨fun i H' hi k => ?_, fun H' k => ?_, fun i H' x H2 w k e y => ?_⟩
  · rw [hl] at hi; exact hi
  · rw [hl]; exact Nat.le_refl _
  · obtain ⟨rfl, rfl⟩ := y
    unfold rngW at e
    rw [List.getElem?_map] at e
    obtain ⟨j, e1, rfl⟩ := Option.map_eq_some_iff.mp e
    have e2 : i = j := by
      by_cases hi : i < n
      · rw [List.getElem?_range hi] at e1; exact Option.some.inj e1
      · rw [List.getElem?_eq_none (by simpa using Nat.le_of_not_lt hi)] at e1; cases e1
    subst e2
    exact ⟨fun _ _ h => h, show Rp K ca _ _ _ from rp_int⟩
/-- range -/
def rngOk (i : Int) : Bool := Nat.ble i.natAbs (2 ^ 61)
def rngL1 : List W → Option (List W)
  | [.int j] => if rngOk j = true then some (rngW 0 j.toNat) else none
  | _ => none
def rngL2 : List W → Option (List W)
  | [.int i, .int j] => if (rngOk i && rngOk j) = true then some (rngW i (j - i).toNat) else none
  | _ => none
def iR1 (l : LM) : LM := fun m => (l m).bind fun ws m => opt (rngL1 ws) m
def iR2 (l : LM) : LM := fun m => (l m).bind fun ws m => opt (rngL2 ws) m
theorem rngOk_ok {i : Int} (h : rngOk i = true) : -(2 ^ 62) ≤ i ∧ i < 2 ^ 62 := by
  have := Nat.le_of_ble_eq_true h
  omega
theorem di_range1 {p pos : Pos} (hg : Gl X "range") (hm : X.mg "range" = none) (ha : DA D Wx X [e] mr) (hs : starEach [e] X.env = [(false, eval e X.env)] := by rfl) : DI false D Wx X tg (.Call (.Name "range" p) [e] [] pos) (iR1 mr) :=
  PI.mono (pi_range1 hg hm ha hs) fun σ H R ⟨ca, ms, r, h⟩ => RdA.bind r h fun ws vs ms1 ca1 H1 x1 r1 p1 h1 => by
    obtain ⟨xs, ex, q⟩ := Po.opt h1
    unfold rngL1 at ex
    split at ex
    · rename_i j
      by_cases hj : rngOk j = true
      · rw [if_pos hj] at ex
        cases ex
        obtain ⟨v, rfl, h2⟩ := p1.inv1
        exact ⟨j, by rw [h2.int], (rngOk_ok hj).1, (rngOk_ok hj).2, q _ ca1 H1 x1 r1 dwalk_rng⟩
      · rw [if_neg hj] at ex; cases ex
    · cases ex
theorem di_range2 {p pos : Pos} (hg : Gl X "range") (hm : X.mg "range" = none) (ha : DA D Wx X [e, e2] mr) (hs : starEach [e, e2] X.env = [(false, eval e X.env), (false, eval e2 X.env)] := by rfl) (hs2 : starEach [e2] X.env = [(false, eval e2 X.env)] := by rfl) : DI false D Wx X tg (.Call (.Name "range" p) [e, e2] [] pos) (iR2 mr) :=
  PI.mono (pi_range2 hg hm ha hs hs2) fun σ H R ⟨ca, ms, r, h⟩ => RdA.bind r h fun ws vs ms1 ca1 H1 x1 r1 p1 h1 => by
    obtain ⟨xs, ex, q⟩ := Po.opt h1
    unfold rngL2 at ex
    split at ex
    · rename_i i j
      by_cases hj : (rngOk i && rngOk j) = true
      · rw [if_pos hj] at ex
        cases ex
        rw [Bool.and_eq_true] at hj
        obtain ⟨v, u, rfl, h2, h3⟩ := p1.inv2
        exact ⟨i, j, by rw [h2.int, h3.int], ⟨(rngOk_ok hj.1).1, (rngOk_ok hj.1).2, (rngOk_ok hj.2).1, (rngOk_ok hj.2).2⟩, q _ ca1 H1 x1 r1 dwalk_rng⟩
      · rw [if_neg hj] at ex; cases ex
    · cases ex
/-- enumerate of a list or a tuple, from 0 -/
def enW (lo : Int) : List W → List W
  | [] => []
  | x :: xs => .tuple [.int lo, x] :: enW (lo + 1) xs
theorem enW_length : ∀ (xs : List W) (lo : Int), (enW lo xs).length = xs.length
  | [], _ => rfl
  | x :: xs, lo => by rw [enW, List.length_cons, List.length_cons, enW_length xs]
theorem enW_get : ∀ (xs : List W) (lo : Int) (i : Nat) (w : W), (enW lo xs)[i]? = some w → ∃ x, xs[i]? = some x ∧ w = .tuple [.int (lo + i), x]
  | [], _, i, w, h => by simp [enW] at h
  | x :: xs, lo, 0, w, h => by
    rw [enW] at h
    simp at h
    exact ⟨x, rfl, by rw [← h]; simp⟩
  | x :: xs, lo, i + 1, w, h => by
    rw [enW, List.getElem?_cons_succ] at h
    obtain ⟨y, e1, e2⟩ := enW_get xs (lo + 1) i w h
    refine ⟨y, by simpa using e1, ?_⟩
    rw [e2]
    have : lo + 1 + (i : Int) = lo + ((i + 1 : Nat) : Int) := by omega
    rw [this]
theorem sqK_of {K : PySem.W.Frag} {ca : CA} {H : Hp} {w : W} {v : V} {ys : List W} (h : Rp K ca H w v) (e : itemsOf w = some ys) : ∃ k a vs, v = .ref a ∧ RpAll K ca H ys vs ∧ ∀ H', Kp H H' → SqK K H' k a vs := by
  cases w with
  | list zs =>
    obtain ⟨a, vs, rfl, f, r⟩ := h.lst
    cases e
    exact ⟨true, a, vs, rfl, r, fun H' k => (f.mono k).sq⟩
  | tuple zs =>
    obtain ⟨a, vs, rfl, f, r⟩ := h.tup
    cases e
    exact ⟨false, a, vs, rfl, r, fun H' k => (f.mono k).sq⟩
  | _ => cases e
theorem dwalk_en {K : PySem.W.Frag} {ca : CA} {H : Hp} {lo : Int} {k : Bool} {a : Addr} {vs : List V} {ys : List W} (r : RpAll K ca H ys vs) (f : ∀ H', Kp H H' → SqK K H' k a vs) : DWalk true K (Itp vs.length (fun H => SqK K H k a vs) (PVen lo vs)) ca H (enW lo ys) := by
  refine ⟨fun i H' hi kp => ⟨by rw [r.length]; rwa [enW_length] at hi, f H' kp⟩, fun H' kp => ⟨by rw [enW_length, r.length], f H' kp⟩, fun i H' x H2 w kp e y => ?_⟩
  obtain ⟨T, x1, y1, rfl, nT, rfl, rfl, hy⟩ := y
  obtain ⟨z, e1, rfl⟩ := enW_get ys lo i w e
  have g := Same.upd_new (o := .tup [.int (lo + i), y1]) nT
  obtain ⟨v, e2, e3⟩ := (RpAll.mono ⟨kp.trans (.of_same g), List.prefix_refl ca⟩ _ _ r).get e1
  rw [hy] at e2
  cases e2
  exact ⟨g, _, _, _, rfl, rfl, upd_same, by simp only [RpAll]; exact ⟨_, _, rfl, rp_int, _, _, rfl, e3, rfl⟩⟩
def iEn (a : EM) : LM := fun m => (a m).bind fun x m => match itemsOf x with
  | some xs => .ok (enW 0 xs) m
  | none => .bad
theorem Inv.seen {X : Cx} {pins : List (Addr × Obj)} {σ : L2.St} {H : Hp} {s : Shared} {k : Bool} {a : Addr} {its : Array Value} (I : Inv X pins σ H s) (h : isK k s.heap a its) : a < s.heap.objs.size := by
  cases k with
  | true => obtain ⟨o, ho, _⟩ := h; exact Heap.lt_size ho
  | false => obtain ⟨o, ho, _⟩ := h; exact Heap.lt_size ho
theorem di_enum {p pos tpos : Pos} {elts : List Expr} {kk : Nat} (hK : D.K = X.K) (hg : Gl X "enumerate") (hm : X.mg "enumerate" = none) (ha : DE D Wx X e ma) (hs : starEach [e] X.env = [(false, eval e X.env)] := by rfl) :
    DI true D Wx X (.Tuple elts kk tpos) (.Call (.Name "enumerate" p) [e] [] pos) (iEn ma) := by
  refine ⟨fun pins s σ H R I h => ?_⟩
  obtain ⟨ca, ms, r, h⟩ := h
  have pa := pa_cons ha pa_nil hs
  refine Call_ (ld_blt I hg hm boot_enumerate (PyProof.Rows.callWith_type1 (thn (pa.run pos pins s σ H (fun vs H1 => ∃ k a vs' ca1 ys ms', vs = [.ref a] ∧ RpAll D.K ca1 H1 ys vs' ∧ (∀ H', Kp H1 H' → SqK X.K H' k a vs') ∧ Ext ca H ca1 H1 ∧ Rel D ca1 σ H1 ms' ∧ Po D Wx σ ca H (DL.R.ok (enW 0 ys) ms') (fun xs ms' => ∀ J ca' H', Ext ca H ca' H' → Rel D ca' σ H' ms' → DWalk true D.K J ca' H' xs → R J H')) I ?_) fun us s1 ⟨vs, H1, I1, r1, q1⟩ => ?_) hs rfl))
  · refine RdE.bind r h fun w v ms1 ca1 H1 x1 r1 p1 h1 => ?_
    cases ei : itemsOf w with
    | none => rw [ei] at h1; exact h1.elim
    | some ys =>
      rw [ei] at h1
      obtain ⟨k, a, vs, rfl, ra, f⟩ := sqK_of p1 ei
      exact ⟨k, a, vs, ca1, ys, ms1, rfl, ra, by rw [← hK]; exact f, x1, r1, h1⟩
  · obtain ⟨k, a, vs', ca1, ys, ms', rfl, ra, f, x1, rl, q⟩ := q1
    cases r1 with
    | cons r1 rr =>
      cases rr
      cases r1
      obtain ⟨its, rv, p', hz⟩ := seqK I1 (f H1 (.refl _))
      refine enum_call1 (begK k a its.toArray) p' fun h' he hit hsz hk => wpAny_pyIter_enum he ?_
      have I2 : Inv X pins σ H1 { s1 with heap := h' } := I1.kept (t' := s1.toks) hk
      have hlt := Inv.seen I1 p'
      refine ⟨s1.heap.objs.size + 1, [s1.heap.objs.size + 1, s1.heap.objs.size], _, _, H1, rfl, I2, turn_en (lo := 0) (vs := vs') k a (s1.heap.objs.size + 1) s1.heap.objs.size, ⟨⟨.none, he⟩, iterK_new hit, Nat.succ_ne_self _, Nat.ne_of_lt hlt, Nat.ne_of_gt (Nat.lt_succ_of_lt hlt)⟩, fun b hb => ?_, ?_⟩
      · have e' : b = s1.heap.objs.size + 1 ∨ b = s1.heap.objs.size := by simpa using hb
        have hge : s1.heap.objs.size ≤ b := by rcases e' with rfl | rfl; exact Nat.le_succ _; exact Nat.le_refl _
        exact I1.fpOk hge (I1.hok.fresh hge)
      · have dw := dwalk_en (lo := 0) ra (by rw [hK]; exact f)
        rw [← hK]
        exact q _ ca1 H1 x1 rl dw
end
end DL
namespace DL
open PySem PySem.Spec PyProof.Rows L2
def zpW : List W → List W → List W
  | x :: xs, y :: ys => .tuple [x, y] :: zpW xs ys
  | _, _ => []
theorem zpW_length : ∀ (xs ys : List W), (zpW xs ys).length = min xs.length ys.length
  | [], _ => by simp [zpW]
  | _ :: _, [] => by simp [zpW]
  | x :: xs, y :: ys => by rw [zpW, List.length_cons, zpW_length xs ys, List.length_cons, List.length_cons]; omega
theorem zpW_get : ∀ (xs ys : List W) (i : Nat) (w : W), (zpW xs ys)[i]? = some w → ∃ x y, xs[i]? = some x ∧ ys[i]? = some y ∧ w = .tuple [x, y]
  | [], _, i, w, h => by simp [zpW] at h
  | _ :: _, [], i, w, h => by simp [zpW] at h
  | x :: xs, y :: ys, 0, w, h => by
    rw [zpW] at h
    simp at h
    exact ⟨x, y, rfl, rfl, h.symm⟩
  | x :: xs, y :: ys, i + 1, w, h => by
    rw [zpW, List.getElem?_cons_succ] at h
    obtain ⟨a, b, e1, e2, e3⟩ := zpW_get xs ys i w h
    exact ⟨a, b, by simpa using e1, by simpa using e2, e3⟩
def iZp (a b : EM) : LM := fun m => (a m).bind fun x m => (b m).bind fun y m => match itemsOf x, itemsOf y with
  | some xs, some ys => .ok (zpW xs ys) m
  | _, _ => .bad
end DL
namespace DL
open PySem PySem.Spec PyProof.Rows L2
theorem CellAt.trk {K : PySem.W.Frag} {ca : CA} {H : Hp} : ∀ {c : Cell} {as : List Addr}, CellAt K ca H c as → ∀ b ∈ as, ∃ o, H b = some o
  | .draw _ _ _ _, _, ⟨s, c, l, e, h1, h2, h3⟩, b, hb => by
    subst e
    have e : b = s ∨ b = c ∨ b = l := by simpa using hb
    rcases e with rfl | rfl | rfl
    · exact ⟨_, h1⟩
    · exact ⟨_, h2⟩
    · exact ⟨_, h3⟩
  | .inst _ _, _, ⟨x, dx, fs', e, h1, h2, _⟩, b, hb => by
    subst e
    have e : b = x ∨ b = dx := by simpa using hb
    rcases e with rfl | rfl
    · exact ⟨_, h1⟩
    · exact ⟨_, h2⟩
  | .lst _, _, ⟨p, vs, e, h1, _⟩, b, hb => by
    subst e
    have e : b = p := by simpa using hb
    subst e
    exact ⟨_, h1⟩
  | .dct _, _, ⟨p, vs, e, h1, _⟩, b, hb => by
    subst e
    have e : b = p := by simpa using hb
    subst e
    exact ⟨_, h1⟩
  | .exc _ _, _, ⟨x, dx, fs', e, h1, h2, _⟩, b, hb => by
    subst e
    have e : b = x ∨ b = dx := by simpa using hb
    rcases e with rfl | rfl
    · exact ⟨_, h1⟩
    · exact ⟨_, h2⟩
theorem mem_flat {ca : CA} {b : Addr} (h : b ∈ ca.flatten) : ∃ (k : Nat) (as : List Addr), ca[k]? = some as ∧ b ∈ as := by
  obtain ⟨as, h1, h2⟩ := List.mem_flatten.mp h
  obtain ⟨k, hk⟩ := List.mem_iff_getElem?.mp h1
  exact ⟨k, as, hk, h2⟩
theorem flat_mem {ca : CA} {b : Addr} {k : Nat} {as : List Addr} (h1 : ca[k]? = some as) (h2 : b ∈ as) : b ∈ ca.flatten := List.mem_flatten.mpr ⟨as, List.mem_of_getElem? h1, h2⟩
section
variable {D : DC} {ca : CA} {σ : L2.St} {H : Hp} {ms : MS}
/-- changed, and no table, no code object -/
def Mu (p : Addr) (o : HO) : Prop := Mut (some o) ∧ NoTab p o
theorem Rel.cell_some (r : Rel D ca σ H ms) (st : D.st = true) {b : Addr} (h : b ∈ ca.flatten) : ∃ o, H b = some o := by
  obtain ⟨k, as, e, hb⟩ := mem_flat h
  have hl := r.len
  rw [if_pos st] at hl
  have hk : k < ca.length := by
    rcases Nat.lt_or_ge k ca.length with h | h
    · exact h
    · rw [List.getElem?_eq_none h] at e; cases e
  have hk2 : k < ms.cells.length := by omega
  exact (r.cells k ms.cells[k] as (by simp [hk2]) e).trk b hb
theorem Rel.ca0_sub (r : Rel D ca σ H ms) {b : Addr} (h : b ∈ D.ca0.flatten) : b ∈ ca.flatten := by
  obtain ⟨t, e⟩ := r.pre
  rw [← e, List.flatten_append]
  exact List.mem_append_left _ h
theorem Rel.ca_split (r : Rel D ca σ H ms) {b : Addr} (h : b ∈ ca.flatten) : b ∈ D.ca0.flatten ∨ b ∈ (ca.drop D.ca0.length).flatten := by
  obtain ⟨t, e⟩ := r.pre
  rw [← e, List.flatten_append] at h
  rcases List.mem_append.mp h with h | h
  · exact .inl h
  · exact .inr (by rw [← e, List.drop_left]; exact h)
theorem Rel.h0_none (r : Rel D ca σ H ms) {L : Addr} (h : H L = none) : D.H0 L = none := by
  cases e : D.H0 L with
  | none => rfl
  | some o =>
    by_cases hm : D.st = true ∧ L ∈ D.ca0.flatten
    · obtain ⟨o', e'⟩ := r.cell_some hm.1 (r.ca0_sub hm.2)
      rw [h] at e'; cases e'
    · by_cases hz : ∃ ps, o = .tbl ps
      · obtain ⟨ps, rfl⟩ := hz
        obtain ⟨q, hq⟩ := r.fb L ps e
        obtain ⟨ps', this, _⟩ := r.tb _ hq
        have this : H L = some (.tbl ps') := this
        rw [h] at this; cases this
      · have := r.fr L o e (fun ps z => hz ⟨ps, z⟩) (fun st hL => hm ⟨st, hL⟩)
        rw [h] at this; cases this
theorem OwnAt.trk {K : PySem.W.Frag} {p : Addr} : ∀ {x : Sl}, OwnAt K ca H p x → ∃ o, H p = some o
  | .fz _, h => h.elim
  | .ow _, ⟨vs, h, _⟩ => ⟨_, h⟩
  | .od _, ⟨vs, h, _⟩ => ⟨_, h⟩
  | .on _, ⟨_, _, xs, h, _⟩ => ⟨_, h⟩
  | .pin _, h => h.elim
/-- a thing is guarded: it stays as it is -/
def DC.guard (D : DC) (L : Addr) (o : HO) : DC := { D with H0 := upd D.H0 L o }
theorem SlAt.h0 {H' : Hp} {D' : DC} (hK : D'.K = D.K) (hP : D'.pins = D.pins) (k : Kp H H') (hp : ∀ p o, D.H0 p = none → H p = some o → Mut (some o) → H' p = some o ∧ D'.H0 p = none) : ∀ {x : Sl} {v : V}, SlAt D ca H v x → SlAt D' ca H' v x
  | .fz w, v, h => by
    show Rp D'.K ca H' w v
    rw [hK]
    exact Rp.mono ⟨k, List.prefix_refl ca⟩ _ _ h
  | .ow xs, v, ⟨p, e, h0, vs, h1, h2⟩ => by
    obtain ⟨a, b⟩ := hp p _ h0 h1 trivial
    exact ⟨p, e, b, vs, a, by rw [hK]; exact RpAll.mono ⟨k, List.prefix_refl ca⟩ _ _ h2⟩
  | .od xs, v, ⟨p, e, h0, vs, h1, h2⟩ => by
    obtain ⟨a, b⟩ := hp p _ h0 h1 trivial
    exact ⟨p, e, b, vs, a, by rw [hK]; exact RpKv.mono ⟨k, List.prefix_refl ca⟩ _ _ h2⟩
  | .on xs, v, ⟨p, e, h0, h1, h2, ys, h3, h4, h5⟩ => by
    obtain ⟨a, b⟩ := hp p _ h0 h3 trivial
    exact ⟨p, e, b, h1, h2, ys, a, h4, by rw [hK]; exact RpN.mono ⟨k, List.prefix_refl ca⟩ _ _ h5⟩
  | .pin k, v, h => by
    show D'.pins k = some v
    rw [hP]; exact h
theorem CellAt.at_ {K : PySem.W.Frag} {H' : Hp} (k : Kp H H') : ∀ {c : Cell} {as : List Addr}, (∀ b ∈ as, ∀ o, H b = some o → H' b = some o) → CellAt K ca H c as → CellAt K ca H' c as
  | .draw _ _ _ _, _, g, ⟨s, c, l, e, h1, h2, h3⟩ => by
    subst e
    exact ⟨s, c, l, rfl, g _ (by simp) _ h1, g _ (by simp) _ h2, g _ (by simp) _ h3⟩
  | .inst _ _, _, g, ⟨x, dx, fs', e, h1, h2, h3⟩ => by
    subst e
    exact ⟨x, dx, fs', rfl, g _ (by simp) _ h1, g _ (by simp) _ h2, RpFs.mono ⟨k, List.prefix_refl ca⟩ _ _ h3⟩
  | .lst _, _, g, ⟨p, vs, e, h1, h2⟩ => by
    subst e
    exact ⟨p, vs, rfl, g _ (by simp) _ h1, RpAll.mono ⟨k, List.prefix_refl ca⟩ _ _ h2⟩
  | .dct _, _, g, ⟨p, vs, e, h1, h2⟩ => by
    subst e
    exact ⟨p, vs, rfl, g _ (by simp) _ h1, RpKv.mono ⟨k, List.prefix_refl ca⟩ _ _ h2⟩
  | .exc _ _, _, g, ⟨x, dx, fs', e, h1, h2, h3⟩ => by
    subst e
    exact ⟨x, dx, fs', rfl, g _ (by simp) _ h1, g _ (by simp) _ h2, RpFs.mono ⟨k, List.prefix_refl ca⟩ _ _ h3⟩
theorem Rel.guard (r : Rel D ca σ H ms) {L : Addr} {o : HO} (h : H L = none) (nt : ∀ ps, o ≠ .tbl ps) : Rel (D.guard L o) ca σ (upd H L o) ms := by
  have g : Same H (upd H L o) := Same.upd_new h
  have r2 := r.grow g
  refine ⟨r2.len, r2.cells, r2.nd, r2.pre, fun b u e hz hn => ?_, fun b hb => ?_, r2.slen, fun i x e => ?_, r2.sep, fun b hb => ?_, r2.oca, r2.tb, fun b ps e => ?_⟩
  · by_cases hb : b = L
    · subst hb
      have e : upd D.H0 b o b = some u := e
      rw [upd_same] at e ⊢
      exact e
    · have e : upd D.H0 L o b = some u := e
      rw [upd_ne hb] at e
      exact r2.fr b u e hz hn
  · show upd D.H0 L o b = none
    have hb' : b ≠ L := fun z => by
      subst z
      by_cases st : D.st = true
      · obtain ⟨o', e'⟩ := r.cell_some st (by obtain ⟨t, e⟩ := r.pre; rw [← e, List.flatten_append]; have hb2 : b ∈ (ca.drop D.ca0.length).flatten := hb; rw [← e, List.drop_left] at hb2; exact List.mem_append_right _ hb2)
        rw [h] at e'; cases e'
      · have hl := r.len
        rw [if_neg st] at hl
        have hb2 : b ∈ (ca.drop D.ca0.length).flatten := hb
        rw [hl.2, List.drop_length] at hb2
        cases hb2
    rw [upd_ne hb']
    exact r.new b hb
  · obtain ⟨v, e1, q⟩ := r.slots i x e
    refine ⟨v, e1, SlAt.h0 (D := D) (D' := D.guard L o) rfl rfl (.of_same g) (fun p u h0 hp _ => ⟨g _ _ hp, ?_⟩) q⟩
    show upd D.H0 L o p = none
    rw [upd_ne (fun z => by subst z; rw [h] at hp; cases hp)]
    exact h0
  · show ∃ u, upd D.H0 L o b = some u ∧ ∀ ps, u ≠ .tbl ps
    by_cases hb2 : b = L
    · subst hb2; exact ⟨_, upd_same, nt⟩
    · rw [upd_ne hb2]; exact r2.c0 b hb
  · have e : upd D.H0 L o b = some (.tbl ps) := e
    by_cases hb : b = L
    · subst hb
      rw [upd_same] at e
      exact absurd (Option.some.inj e) (nt ps)
    · rw [upd_ne hb] at e
      exact r2.fb b ps e
theorem Rel.not_ca0 (r : Rel D ca σ H ms) {L : Addr} (h : H L = none) : L ∉ D.ca0.flatten := fun hm => by
  obtain ⟨o, e, hz⟩ := r.c0 L hm
  by_cases st : D.st = true
  · obtain ⟨o', e'⟩ := r.cell_some st (r.ca0_sub hm)
    rw [h] at e'; cases e'
  · have := r.fr L o e hz (fun z => absurd z st)
    rw [h] at this; cases this
theorem Rel.at_guard {L : Addr} {o : HO} (r : Rel (D.guard L o) ca σ H ms) (hL : L ∉ D.ca0.flatten) (nt : ∀ ps, o ≠ .tbl ps) : H L = some o := r.fr L o (by show upd D.H0 L o L = some o; exact upd_same) nt fun _ => hL
theorem Rel.guard_ca {L : Addr} {o : HO} (r : Rel (D.guard L o) ca σ H ms) (hL : L ∉ D.ca0.flatten) : L ∉ ca.flatten := fun hm => by
  rcases r.ca_split hm with h | h
  · exact hL h
  · have := r.new L h
    have this : upd D.H0 L o L = none := this
    rw [upd_same] at this; cases this
theorem Rel.unguard {L : Addr} {o : HO} (r : Rel (D.guard L o) ca σ H ms) (h0 : D.H0 L = none) (hL : L ∉ D.ca0.flatten) : Rel D ca σ H ms := by
  have hsub : ∀ b, (D.guard L o).H0 b = none → D.H0 b = none := fun b e => by
    have e : upd D.H0 L o b = none := e
    by_cases hb : b = L
    · subst hb; exact h0
    · rw [upd_ne hb] at e; exact e
  refine ⟨r.len, r.cells, r.nd, r.pre, fun b u e hz hn => r.fr b u ?_ hz hn, fun b hb => hsub b (r.new b hb), r.slen, fun i x e => ?_, r.sep, fun b hb => ?_, r.oca, r.tb, fun b ps e => r.fb b ps ?_⟩
  · show upd D.H0 L o b = some u
    rw [upd_ne (fun z => by subst z; rw [h0] at e; cases e)]
    exact e
  · obtain ⟨v, e1, q⟩ := r.slots i x e
    exact ⟨v, e1, SlAt.h0 (D := D.guard L o) (D' := D) rfl rfl (.refl H) (fun p u hp hu _ => ⟨hu, hsub p hp⟩) q⟩
  · obtain ⟨u, e, hz⟩ := r.c0 b hb
    have e : upd D.H0 L o b = some u := e
    rw [upd_ne (fun z => by subst z; exact hL hb)] at e
    exact ⟨u, e, hz⟩
  · show upd D.H0 L o b = some (.tbl ps)
    rw [upd_ne (fun z => by subst z; rw [h0] at e; cases e)]
    exact e
theorem Kp.upd_mut {H : Hp} {L : Addr} {o o' : HO} (h : H L = some o) (mu : Mut (some o)) : Kp H (upd H L o') :=
  ⟨fun b xs e => by rw [upd_ne (fun z => by subst z; rw [h] at e; cases e; exact mu)]; exact e, fun b u z e => by rw [upd_ne (fun y => by subst y; rw [h] at e; cases e; exact mu)]; exact e⟩
theorem Rel.reguard {L : Addr} {o o' : HO} (r : Rel (D.guard L o) ca σ H ms) (hL : L ∉ D.ca0.flatten) (mu : Mu L o) (nt' : ∀ ps, o' ≠ .tbl ps) : Rel (D.guard L o') ca σ (upd H L o') ms := by
  have hH := r.at_guard hL mu.2.1
  have k : Kp H (upd H L o') := Kp.upd_mut hH mu.1
  have hc := r.guard_ca hL
  refine ⟨r.len, fun j c as e1 e2 => ?_, r.nd, r.pre, fun b u e hz hn => ?_, fun b hb => ?_, r.slen, fun i x e => ?_, r.sep, fun b hb => ?_, r.oca, tabs_upd r.tb hH mu.2.1 mu.2.2, fun b ps e => ?_⟩
  · exact (r.cells j c as e1 e2).at_ k fun b hb o2 h => by
      rw [upd_ne (fun z => by subst z; exact hc (flat_mem e2 hb))]; exact h
  · have e : upd D.H0 L o' b = some u := e
    by_cases hb : b = L
    · subst hb
      rw [upd_same] at e ⊢
      exact e
    · rw [upd_ne hb] at e ⊢
      exact r.fr b u (by show upd D.H0 L o b = some u; rw [upd_ne hb]; exact e) hz hn
  · have := r.new b hb
    have this : upd D.H0 L o b = none := this
    show upd D.H0 L o' b = none
    by_cases hbL : b = L
    · subst hbL; rw [upd_same] at this; cases this
    · rw [upd_ne hbL] at this ⊢; exact this
  · obtain ⟨v, e1, q⟩ := r.slots i x e
    refine ⟨v, e1, SlAt.h0 (D := D.guard L o) (D' := D.guard L o') rfl rfl k (fun p u hp hu _ => ?_) q⟩
    have hp : upd D.H0 L o p = none := hp
    have hpL : p ≠ L := fun z => by subst z; rw [upd_same] at hp; cases hp
    rw [upd_ne hpL] at hp
    exact ⟨by rw [upd_ne hpL]; exact hu, by show upd D.H0 L o' p = none; rw [upd_ne hpL]; exact hp⟩
  · show ∃ u, upd D.H0 L o' b = some u ∧ ∀ ps, u ≠ .tbl ps
    obtain ⟨u, e, hz⟩ := r.c0 b hb
    have e : upd D.H0 L o b = some u := e
    rw [upd_ne (fun z => by subst z; exact hL hb)] at e ⊢
    exact ⟨u, e, hz⟩
  · have e : upd D.H0 L o' b = some (.tbl ps) := e
    by_cases hb : b = L
    · subst hb
      rw [upd_same] at e
      exact absurd (Option.some.inj e) (nt' ps)
    · rw [upd_ne hb] at e
      exact r.fb b ps (by show upd D.H0 L o b = some (.tbl ps); rw [upd_ne hb]; exact e)
/-- the heap without L -/
def erase (H : Hp) (L : Addr) : Hp := fun b => if b = L then none else H b
theorem erase_same {H : Hp} {L : Addr} : erase H L L = none := by unfold erase; rw [if_pos rfl]
theorem erase_ne {H : Hp} {L b : Addr} (h : b ≠ L) : erase H L b = H b := by unfold erase; rw [if_neg h]
theorem upd_erase {H : Hp} {L : Addr} {o : HO} (h : H L = some o) : upd (erase H L) L o = H := by
  funext b
  by_cases hb : b = L
  · subst hb; rw [upd_same, h]
  · rw [upd_ne hb, erase_ne hb]
theorem Kp.erase {H : Hp} {L : Addr} {o : HO} (h : H L = some o) (mu : Mut (some o)) : Kp H (erase H L) :=
  ⟨fun b xs e => by rw [erase_ne (fun z => by subst z; rw [h] at e; cases e; exact mu)]; exact e, fun b u z e => by rw [erase_ne (fun y => by subst y; rw [h] at e; cases e; exact mu)]; exact e⟩
theorem Rel.ungrow {L : Addr} {o : HO} (r : Rel (D.guard L o) ca σ H ms) (hL : L ∉ D.ca0.flatten) (h0 : D.H0 L = none) (mu : Mu L o) : Rel D ca σ (erase H L) ms := by
  have hH := r.at_guard hL mu.2.1
  have k : Kp H (DL.erase H L) := Kp.erase hH mu.1
  have hc := r.guard_ca hL
  have u := r.unguard h0 hL
  refine ⟨u.len, fun j c as e1 e2 => ?_, u.nd, u.pre, fun b v e hz hn => ?_, u.new, u.slen, fun i x e => ?_, u.sep, u.c0, u.oca, fun x hx => ?_, fun b ps e => ?_⟩
  · exact (u.cells j c as e1 e2).at_ k fun b hb o2 h => by
      rw [erase_ne (fun z => by subst z; exact hc (flat_mem e2 hb))]; exact h
  · rw [erase_ne (fun z => by subst z; rw [h0] at e; cases e)]
    exact u.fr b v e hz hn
  · obtain ⟨v, e1, q⟩ := r.slots i x e
    refine ⟨v, e1, SlAt.h0 (D := D.guard L o) (D' := D) rfl rfl k (fun p w hp hw _ => ?_) q⟩
    have hp : upd D.H0 L o p = none := hp
    have hpL : p ≠ L := fun z => by subst z; rw [upd_same] at hp; cases hp
    rw [upd_ne hpL] at hp
    exact ⟨by rw [erase_ne hpL]; exact hw, hp⟩
  · obtain ⟨ps, e1, e2, e3⟩ := u.tb x hx
    refine ⟨ps, by rw [erase_ne (fun z => by rw [z, hH] at e1; exact mu.2.1 ps (Option.some.inj e1))]; exact e1, e2, fun pos cv hc => ?_⟩
    obtain ⟨c, e4, e5⟩ := e3 pos cv hc
    exact ⟨c, e4, by rw [erase_ne (fun z => by subst z; rw [hH] at e5; exact mu.2.2 _ (Option.some.inj e5))]; exact e5⟩
  · exact u.fb b ps e
end
end DL
namespace DL
open PySem PySem.Spec PyProof.Rows L2
abbrev GM := W → MS → R Unit
abbrev GsM := List W → MS → R Unit
def RdG (wk : Bool) (D : DC) (sl : List Nat) (g : GM) : TG := fun v σ H Q => ∃ ca ms w, Rel D ca σ H ms ∧ RpK wk D.K ca H w v ∧ ∃ ms', g w ms = .ok () ms' ∧ ∀ σ' ca' H', σ'.length = σ.length → (∀ i, i ∉ sl → σ'[i]? = σ[i]?) → Ext ca H ca' H' → Rel D ca' σ' H' ms' → Q σ' H'
def RdGs (D : DC) (sl : List Nat) (g : GsM) : TGs := fun vs σ H Q => ∃ ca ms ws, Rel D ca σ H ms ∧ RpAll D.K ca H ws vs ∧ ∃ ms', g ws ms = .ok () ms' ∧ ∀ σ' ca' H', σ'.length = σ.length → (∀ i, i ∉ sl → σ'[i]? = σ[i]?) → Ext ca H ca' H' → Rel D ca' σ' H' ms' → Q σ' H'
/-- what a target does to the slots: those of sl alone -/
def GQ (sl : List Nat) (g : GM) : Prop := ∀ w m m', g w m = .ok () m' → ∀ (i : Nat), i ∉ sl → m'.env[i]? = m.env[i]?
def GsQ (sl : List Nat) (g : GsM) : Prop := ∀ w m m', g w m = .ok () m' → ∀ (i : Nat), i ∉ sl → m'.env[i]? = m.env[i]?
structure DG (wk : Bool) (D : DC) (X : Cx) (e : Expr) (sl : List Nat) (g : GM) : Prop where
  pg : PG X e (RdG wk D sl g)
  gq : GQ sl g
structure DGs (D : DC) (X : Cx) (es : List Expr) (sl : List Nat) (n : Nat) (g : GsM) : Prop where
  pg : PGs X es (RdGs D sl g)
  gq : GsQ sl g
  len : ∀ ws m m', g ws m = .ok () m' → ws.length = n
theorem PG.mono {X : Cx} {e : Expr} {t t' : TG} (h : PG X e t) (f : ∀ v σ H Q, t' v σ H Q → t v σ H Q) : PG X e t' := ⟨fun pins s σ H v u Q I r hw => h.run pins s σ H v u Q I r (f v σ H Q hw)⟩
theorem PGs.mono {X : Cx} {e : List Expr} {t t' : TGs} (h : PGs X e t) (f : ∀ v σ H Q, t' v σ H Q → t v σ H Q) : PGs X e t' := ⟨fun pins s σ H v u Q I r hw => h.run pins s σ H v u Q I r (f v σ H Q hw)⟩
theorem Rel.set {D : DC} {ca : CA} {σ : L2.St} {H : Hp} {ms : MS} {w : W} {v : V} (r : Rel D ca σ H ms) (p : Rp D.K ca H w v) (i : Nat) : Rel D ca (σ.set i (some v)) H { ms with env := ms.env.set i (some (.fz w)) } := by
  have nj : ∀ j, Sl.isOwn (ms.env.set i (some (.fz w)))[j]? = true → i ≠ j := fun j e z => by
    subst z
    by_cases hi : i < ms.env.length
    · rw [List.getElem?_set_self hi] at e; cases e
    · rw [List.getElem?_eq_none (by simpa using Nat.le_of_not_lt hi)] at e; cases e
  refine ⟨r.len, r.cells, r.nd, r.pre, r.fr, r.new, by simp [r.slen], fun j x e => ?_, fun j k u hjk e1 e2 e3 e4 => ?_, r.c0, fun j p e1 e2 => ?_, r.tb, r.fb⟩
  · by_cases hij : i = j
    · subst hij
      by_cases hi : i < ms.env.length
      · have e : (ms.env.set i (some (.fz w)))[i]? = some (some x) := e
        rw [List.getElem?_set_self hi] at e
        cases e
        exact ⟨v, List.getElem?_set_self (by rw [← r.slen]; exact hi), p⟩
      · have e : (ms.env.set i (some (.fz w)))[i]? = some (some x) := e
        rw [List.getElem?_eq_none (by simpa using Nat.le_of_not_lt hi)] at e
        cases e
    · have e : (ms.env.set i (some (.fz w)))[j]? = some (some x) := e
      rw [List.getElem?_set_ne hij] at e
      rw [List.getElem?_set_ne hij]
      exact r.slots j x e
  · have h1 := nj j e1
    have h2 := nj k e2
    have e1 : Sl.isOwn (ms.env.set i (some (.fz w)))[j]? = true := e1
    have e2 : Sl.isOwn (ms.env.set i (some (.fz w)))[k]? = true := e2
    rw [List.getElem?_set_ne h1] at e1 e3
    rw [List.getElem?_set_ne h2] at e2 e4
    exact r.sep j k u hjk e1 e2 e3 e4
  · have h1 := nj j e1
    have e1 : Sl.isOwn (ms.env.set i (some (.fz w)))[j]? = true := e1
    rw [List.getElem?_set_ne h1] at e1 e2
    exact r.oca j p e1 e2
def setFz (i : Nat) : GM := fun w m => .ok () { m with env := m.env.set i (some (.fz w)) }
def gsNil : GsM := fun ws m => match ws with
  | [] => .ok () m
  | _ => .bad
def gsCons (g : GM) (r : GsM) : GsM := fun ws m => match ws with
  | w :: ws => (g w m).bind fun _ m => r ws m
  | [] => .bad
def gTupW (g : GsM) : GM := fun w m => match w with
  | .tuple ws => g ws m
  | _ => .bad
theorem gsNil_len {ws : List W} {m m' : MS} (h : gsNil ws m = .ok () m') : ws.length = 0 := by
  cases ws with
  | nil => rfl
  | cons => cases h
theorem gsCons_inv {g : GM} {gs : GsM} {ws : List W} {m m' : MS} (e : gsCons g gs ws m = .ok () m') : ∃ w r m1, ws = w :: r ∧ g w m = .ok () m1 ∧ gs r m1 = .ok () m' := by
  cases ws with
  | nil => cases e
  | cons w ws =>
    have e : (g w m).bind (fun _ m => gs ws m) = .ok () m' := e
    cases e1 : g w m with
    | ok u m1 => rw [e1] at e; exact ⟨w, ws, m1, rfl, e1, e⟩
    | err c fs m => rw [e1] at e; cases e
    | bad => rw [e1] at e; cases e
section
variable {D : DC} {X : Cx} {e : Expr} {es : List Expr} {pos : Pos} {sl sl2 : List Nat} {n : Nat} {g : GM} {gs : GsM}
theorem dg_name {i : Nat} {x : Str} (hN : X.N.Nodup) (hi : X.N[i]? = some x) (hx : Loc X.env.scope x) (hf : X.fn x = true ∨ X.env.scope.names.lookup x = some .local := by first | exact .inl rfl | exact .inr rfl | assumption) : DG false D X (.Name x pos) [i] (setFz i) :=
  ⟨PG.mono (pg_name hN hi hx hf) fun v σ H Q ⟨ca, ms, w, r, p, ms', e, q⟩ => by
    cases e
    exact q _ ca H (by simp) (fun j hj => List.getElem?_set_ne (by simpa using fun z => hj (by simp [z]))) (.refl _ _) (r.set p i),
  fun w m m' e j hj => by
    cases e
    exact List.getElem?_set_ne (by simpa using fun z => hj (by simp [z]))⟩
theorem dgs_nil : DGs D X [] [] 0 gsNil := ⟨PGs.mono pgs_nil fun vs σ H Q ⟨ca, ms, ws, r, p, ms', e, q⟩ => (by
  cases ws with
  | nil =>
    simp only [RpAll] at p
    cases e
    exact ⟨p, q _ ca H rfl (fun _ _ => rfl) (.refl _ _) r⟩
  | cons => cases e), (fun w m m' e j hj => by
    cases w with
    | nil => cases e; rfl
    | cons => cases e), fun ws m m' e => gsNil_len e⟩
theorem dgs_cons (h1 : DG false D X e sl g) (h2 : DGs D X es sl2 n gs) (hs : (assignEach (e :: es) X.env).map (·.2) = assign e X.env :: (assignEach es X.env).map (·.2) := by rfl) : DGs D X (e :: es) (sl ++ sl2) (n + 1) (gsCons g gs) :=
  ⟨PGs.mono (pgs_cons h1.pg h2.pg hs) fun vs σ H Q ⟨ca, ms, ws, r, p, ms', e, q⟩ => by
    obtain ⟨w, ws', m1, rfl, e1, e2⟩ := gsCons_inv e
    simp only [RpAll] at p
    obtain ⟨v, rr, rfl, p1, p2⟩ := p
    exact ⟨v, rr, rfl, ca, ms, w, r, p1, m1, e1, fun σ' ca' H' hl1 hs1 x r' => ⟨ca', m1, ws', r', RpAll.mono x _ _ p2, ms', e2, fun σ2 ca2 H2 hl2 hs2 x2 r2 => q σ2 ca2 H2 (hl2.trans hl1) (fun i hi => (hs2 i (fun z => hi (List.mem_append_right _ z))).trans (hs1 i (fun z => hi (List.mem_append_left _ z)))) (x.trans x2) r2⟩⟩,
  fun w m m' e i hi => by
    obtain ⟨w, ws', m1, rfl, e1, e2⟩ := gsCons_inv e
    exact (h2.gq _ _ _ e2 i (fun z => hi (List.mem_append_right _ z))).trans (h1.gq _ _ _ e1 i (fun z => hi (List.mem_append_left _ z))),
  fun ws m m' e => by
    obtain ⟨w, ws', m1, rfl, e1, e2⟩ := gsCons_inv e
    rw [List.length_cons, h2.len _ _ _ e2]⟩
theorem dg_tup {wk : Bool} {k : Nat} (hK : D.K = X.K) (hc : X.calm = true) (h : DGs D X es sl n gs) (hn : (assignEach es X.env).length = n := by rfl) (hst : (assignEach es X.env).findIdx? (·.1) = none := by rfl) : DG wk D X (.Tuple es k pos) sl (gTupW gs) :=
  ⟨PG.mono (pg_tup hc h.pg hn hst) fun v σ H Q ⟨ca, ms, w, r, p, ms', e, q⟩ => (by
    cases w with
    | tuple ws =>
      obtain ⟨a, vs, rfl, f, ra⟩ := p.tup
      exact ⟨a, vs, rfl, by rw [← hK]; exact f, by rw [ra.length]; exact h.len _ _ _ e, ca, ms, ws, r, ra, ms', e, q⟩
    | _ => cases e),
  fun w m m' e i hi => by
    cases w with
    | tuple ws => exact h.gq _ _ _ e i hi
    | _ => cases e⟩
end
def wipeE (env : List (Option Sl)) : List Nat → List (Option Sl)
  | [] => env
  | v :: vs => (wipeE env vs).set v none
theorem wipeE_length (env : List (Option Sl)) : ∀ vs, (wipeE env vs).length = env.length
  | [] => rfl
  | v :: vs => by unfold wipeE; rw [List.length_set, wipeE_length env vs]
theorem wipeE_some {env : List (Option Sl)} {i : Nat} {x : Sl} : ∀ {vs : List Nat}, (wipeE env vs)[i]? = some (some x) → env[i]? = some (some x) ∧ i ∉ vs
  | [], h => ⟨h, by simp⟩
  | v :: vs, h => by
    unfold wipeE at h
    by_cases hi : v = i
    · subst hi
      by_cases hv : v < (wipeE env vs).length
      · rw [List.getElem?_set_self hv] at h; cases h
      · rw [List.getElem?_eq_none (by simpa using hv)] at h; cases h
    · rw [List.getElem?_set_ne hi] at h
      obtain ⟨h1, h2⟩ := wipeE_some h
      exact ⟨h1, by simp only [List.mem_cons, not_or]; exact ⟨fun e => hi e.symm, h2⟩⟩
theorem wipe_keep {σ : L2.St} {i : Nat} : ∀ {vs : List Nat}, i ∉ vs → (wipe σ vs)[i]? = σ[i]?
  | [], _ => rfl
  | v :: vs, h => by
    simp only [List.mem_cons, not_or] at h
    unfold wipe
    rw [List.getElem?_set_ne (Ne.symm h.1), wipe_keep h.2]
theorem isOwn_some {o : Option (Option Sl)} (h : Sl.isOwn o = true) : ∃ x, o = some (some x) := by
  cases o with
  | none => cases h
  | some o => cases o with
    | none => cases h
    | some x => exact ⟨x, rfl⟩
theorem Rel.wipe {D : DC} {ca : CA} {σ : L2.St} {H : Hp} {ms : MS} (r : Rel D ca σ H ms) (vs : List Nat) : Rel D ca (L2.wipe σ vs) H { ms with env := wipeE ms.env vs } := by
  refine ⟨r.len, r.cells, r.nd, r.pre, r.fr, r.new, by show (wipeE ms.env vs).length = _; rw [wipeE_length, wipe_length, r.slen], fun j x e => ?_, fun j k u hjk e1 e2 e3 e4 => ?_, r.c0, fun j p e1 e2 => ?_, r.tb, r.fb⟩
  · obtain ⟨h1, h2⟩ := wipeE_some e
    rw [wipe_keep h2]
    exact r.slots j x h1
  · obtain ⟨x, hx⟩ := isOwn_some e1
    obtain ⟨y, hy⟩ := isOwn_some e2
    obtain ⟨h1, h2⟩ := wipeE_some hx
    obtain ⟨h3, h4⟩ := wipeE_some hy
    rw [wipe_keep h2] at e3
    rw [wipe_keep h4] at e4
    have e1 : Sl.isOwn (wipeE ms.env vs)[j]? = true := e1
    have e2 : Sl.isOwn (wipeE ms.env vs)[k]? = true := e2
    rw [hx, ← h1] at e1
    rw [hy, ← h3] at e2
    exact r.sep j k u hjk e1 e2 e3 e4
  · obtain ⟨x, hx⟩ := isOwn_some e1
    obtain ⟨h1, h2⟩ := wipeE_some hx
    rw [wipe_keep h2] at e2
    have e1 : Sl.isOwn (wipeE ms.env vs)[j]? = true := e1
    rw [hx, ← h1] at e1
    exact r.oca j p e1 e2
/-- the slots as they were, the heap and the cells as they are now -/
theorem Rel.back {D : DC} {ca ca' : CA} {σ σ' : L2.St} {H H' : Hp} {ms ms' : MS} (r : Rel D ca σ H ms) (r' : Rel D ca' σ' H' ms') (x : Ext ca H ca' H') (own : ∀ (i : Nat) (y : Sl), Sl.isOwn ms.env[i]? = true → ms.env[i]? = some (some y) → ms'.env[i]? = some (some y) ∧ σ'[i]? = σ[i]?) : Rel D ca' σ H' { env := ms.env, cells := ms'.cells } := by
  refine ⟨r'.len, r'.cells, r'.nd, r'.pre, r'.fr, r'.new, r.slen, fun j y e => ?_, r.sep, r.c0, fun j p e1 e2 => ?_, r'.tb, r'.fb⟩
  cases y with
  | fz w =>
    obtain ⟨v, e1, p⟩ := r.slots j _ e
    exact ⟨v, e1, Rp.mono x _ _ p⟩
  | ow xs =>
    have e : ms.env[j]? = some (some (.ow xs)) := e
    obtain ⟨h1, h2⟩ := own j _ (by rw [e]; rfl) e
    obtain ⟨v, e1, p⟩ := r'.slots j _ h1
    rw [h2] at e1
    exact ⟨v, e1, p⟩
  | od xs =>
    have e : ms.env[j]? = some (some (.od xs)) := e
    obtain ⟨h1, h2⟩ := own j _ (by rw [e]; rfl) e
    obtain ⟨v, e1, p⟩ := r'.slots j _ h1
    rw [h2] at e1
    exact ⟨v, e1, p⟩
  | pin k =>
    obtain ⟨v, e1, p⟩ := r.slots j _ e
    exact ⟨v, e1, p⟩
  | on xs =>
    have e : ms.env[j]? = some (some (.on xs)) := e
    obtain ⟨h1, h2⟩ := own j _ (by rw [e]; rfl) e
    obtain ⟨v, e1, p⟩ := r'.slots j _ h1
    rw [h2] at e1
    exact ⟨v, e1, p⟩
  · obtain ⟨y, hy⟩ := isOwn_some e1
    have hy : ms.env[j]? = some (some y) := hy
    obtain ⟨h1, h2⟩ := own j y e1 hy
    exact r'.oca j p (by rw [h1, ← hy]; exact e1) (by rw [h2]; exact e2)
theorem wipe_at {σ : L2.St} {i : Nat} : ∀ {vs : List Nat}, i ∈ vs → (L2.wipe σ vs)[i]? = if i < σ.length then some none else none
  | v :: vs, h => by
    unfold L2.wipe
    by_cases hv : v = i
    · subst hv
      by_cases hi : v < σ.length
      · rw [List.getElem?_set_self (by rw [wipe_length]; exact hi), if_pos hi]
      · rw [List.getElem?_eq_none (by rw [List.length_set, wipe_length]; omega), if_neg hi]
    · rw [List.getElem?_set_ne hv]
      exact wipe_at ((List.mem_cons.mp h).resolve_left fun z => hv z.symm)
theorem wipe_eq {σ σ' : L2.St} {sl vs : List Nat} (hl : σ'.length = σ.length) (hs : ∀ i, i ∉ sl → σ'[i]? = σ[i]?) (hv : ∀ i ∈ sl, i ∈ vs) : L2.wipe σ' vs = L2.wipe σ vs := by
  refine List.ext_getElem? fun i => ?_
  by_cases h : i ∈ vs
  · rw [wipe_at h, wipe_at h, hl]
  · rw [wipe_keep h, wipe_keep h]
    exact hs i fun z => h (hv i z)
theorem wipe_wipe (σ : L2.St) (vs : List Nat) : L2.wipe (L2.wipe σ vs) vs = L2.wipe σ vs := by
  refine List.ext_getElem? fun i => ?_
  by_cases h : i ∈ vs
  · rw [wipe_at h, wipe_at h, wipe_length]
  · rw [wipe_keep h]
/-- the slots stay -/
def EQt (m : EM) : Prop := ∀ s w s', m s = .ok w s' → s'.env = s.env
def TQt (m : TM) : Prop := ∀ s w s', m s = .ok w s' → s'.env = s.env
def compGo (g : GM) (t : TM) (el : EM) (env0 : List (Option Sl)) : List W → List Cell → Option (List W × List Cell)
  | [], cs => some ([], cs)
  | x :: xs, cs => match g x ⟨env0, cs⟩ with
    | .ok _ m2 => match t m2 with
      | .ok true m3 => match el m3 with
        | .ok y m4 => match compGo g t el env0 xs m4.cells with
          | some (ys, cs') => some (y :: ys, cs')
          | none => none
        | _ => none
      | .ok false m3 => compGo g t el env0 xs m3.cells
      | _ => none
    | _ => none
def ownFree (env : List (Option Sl)) (own : List Nat) : Bool := own.all fun i => !Sl.isOwn env[i]?
def fComp (it : LM) (g : GM) (t : TM) (el : EM) (own : List Nat) : LM := fun m => (it m).bind fun xs m => if ownFree m.env own = false then .bad else match compGo g t el (wipeE m.env own) xs m.cells with
  | some (ys, cs) => if szOk ys.length = true then .ok ys { m with cells := cs } else .bad
  | none => .bad
def tYesM : TM := fun m => .ok true m
end DL
namespace DL
open PySem PySem.Spec PyProof.Rows L2
def W0 : WX := fun _ _ _ _ => False
def gAny_ (wk : Bool) (D0 : DC) (sl : List Nat) (g : GM) : TG := fun v σ H Q => ∃ D : DC, D.K = D0.K ∧ D.sx = D0.sx ∧ RdG wk D sl g v σ H Q
def tAny_ (D0 : DC) (t : TM) : TT := fun σ H Q => ∃ D : DC, D.K = D0.K ∧ D.sx = D0.sx ∧ RdT D W0 t σ H Q
def eAny_ (D0 : DC) (e : EM) : TE := fun σ H Q => ∃ D : DC, D.K = D0.K ∧ D.sx = D0.sx ∧ RdE D W0 e σ H Q
theorem RdT.okk {D : DC} {σ : L2.St} {ca : CA} {H : Hp} {ms m1 : MS} {t : TM} {b : Bool} {Q : Bool → Hp → Prop} (r : Rel D ca σ H ms) (e : t ms = .ok b m1) (q : ∀ ca' H', Ext ca H ca' H' → Rel D ca' σ H' m1 → Q b H') : RdT D W0 t σ H Q :=
  ⟨ca, ms, r, by rw [e]; exact q⟩
theorem RdE.okk {D : DC} {σ : L2.St} {ca : CA} {H : Hp} {ms m1 : MS} {t : EM} {w : W} {Q : VK} (r : Rel D ca σ H ms) (e : t ms = .ok w m1) (q : ∀ v ca' H', Ext ca H ca' H' → Rel D ca' σ H' m1 → Rp D.K ca' H' w v → Q v H') : RdE D W0 t σ H Q :=
  ⟨ca, ms, r, by rw [e]; exact q⟩
theorem Mut_lst {vs : List V} : Mut (some (.lst vs)) := trivial
/-- the state behind a turn, put back -/
theorem Rel.turned {D : DC} {ca ca' : CA} {σ σ' : L2.St} {H H' : Hp} {env0 : List (Option Sl)} {cs : List Cell} {ms' : MS} {sl vs : List Nat} (r : Rel D ca (L2.wipe σ vs) H ⟨env0, cs⟩) (r' : Rel D ca' σ' H' ms') (x : Ext ca H ca' H')
    (hs : ∀ i, i ∉ sl → σ'[i]? = (L2.wipe σ vs)[i]?) (he : ∀ i, i ∉ sl → ms'.env[i]? = env0[i]?) (hv : ∀ i ∈ sl, i ∈ vs) (hw : ∀ i ∈ vs, ∀ y, env0[i]? ≠ some (some y)) : Rel D ca' (L2.wipe σ vs) H' ⟨env0, ms'.cells⟩ :=
  r.back r' x fun i y e1 e2 => by
    have hi : i ∉ sl := fun z => hw i (hv i z) y e2
    exact ⟨(he i hi).trans e2, hs i hi⟩
theorem wipeE_at {env : List (Option Sl)} {vs : List Nat} : ∀ i ∈ vs, ∀ y, (wipeE env vs)[i]? ≠ some (some y) := fun i hi y e => (wipeE_some e).2 hi
theorem wipeE_keep {env : List (Option Sl)} {i : Nat} : ∀ {vs : List Nat}, i ∉ vs → (wipeE env vs)[i]? = env[i]?
  | [], _ => rfl
  | v :: vs, h => by
    simp only [List.mem_cons, not_or] at h
    unfold wipeE
    rw [List.getElem?_set_ne (Ne.symm h.1), wipeE_keep h.2]
/-- what is reached turn by turn -/
structure CIn (D : DC) (ca1 : CA) (σ : L2.St) (H1 : Hp) (L : Addr) (env0 : List (Option Sl)) (vs : List Nat) (g : GM) (t : TM) (el : EM) (xs ys : List W) (cs' : List Cell) (i : Nat) (H : Hp) : Prop where
  mk ::
  ex : ∃ (ca : CA) (acc : List V) (cs : List Cell) (dn rs : List W), Kp H1 H ∧ ca1 <+: ca ∧ Rel (D.guard L (.lst acc)) ca (L2.wipe σ vs) H ⟨env0, cs⟩ ∧ RpAll D.K ca H dn acc ∧ compGo g t el env0 (xs.drop i) cs = some (rs, cs') ∧ ys = dn ++ rs
theorem comp_walk {wk : Bool} {D : DC} {ca1 : CA} {σ : L2.St} {H1 : Hp} {L : Addr} {env0 : List (Option Sl)} {sl vs : List Nat} {g : GM} {t : TM} {el : EM} {xs ys : List W} {cs cs' : List Cell} {J : It} {Qd : Hp → Prop}
    (hgq : GQ sl g) (htq : TQt t) (heq : EQt el) (hv : ∀ i ∈ sl, i ∈ vs) (hw : ∀ i ∈ vs, ∀ y, env0[i]? ≠ some (some y)) (hL : H1 L = none) (r1 : Rel D ca1 (L2.wipe σ vs) H1 ⟨env0, cs⟩) (dw : DWalk wk D.K J ca1 H1 xs)
    (hc : compGo g t el env0 xs cs = some (ys, cs')) (hz : ys.length ≤ sizeLine) (hq : ∀ H acc ca, Kp H1 H → ca1 <+: ca → Rel (D.guard L (.lst acc)) ca (L2.wipe σ vs) H ⟨env0, cs'⟩ → RpAll D.K ca H ys acc → Qd H) :
    ∃ W : Nat → Nat → Hp → Prop, (∃ m, W 0 m (upd H1 L (.lst []))) ∧ ∀ i m H, W i m H →
      (J.stop i H ∧ Qd H) ∨ (J.go i H ∧ ∃ Nx : Hp → Prop, (∀ H', Nx H' → ∃ m', m' < m ∧ W (i + 1) m' H') ∧ ∀ x H', J.yld i H x H' → gAny_ wk D sl g x (L2.wipe σ vs) H' fun σ2 H2 => L2.wipe σ2 vs = L2.wipe σ vs ∧ tAny_ D t σ2 H2 fun b H3 =>
        if b = true then eAny_ D el σ2 H3 fun y H4 => ∃ acc, H4 L = some (.lst acc) ∧ acc.length < sizeLine ∧ Nx (upd H4 L (.lst (acc ++ [y]))) else Nx H3) := by
  have hL0 := r1.not_ca0 hL
  refine ⟨fun i m H => m = xs.length - i ∧ i ≤ xs.length ∧ CIn D ca1 σ H1 L env0 vs g t el xs ys cs' i H, ⟨xs.length, by simp, Nat.zero_le _, ⟨ca1, [], cs, [], ys, .upd_new hL, List.prefix_refl _, r1.guard hL nt_lst, by simp only [RpAll], by simpa using hc, rfl⟩⟩, ?_⟩
  rintro i m H ⟨rfl, hi, ⟨ca, acc, ct, dn, rs, kp, px, r, pa, cg, ey⟩⟩
  by_cases hlt : i < xs.length
  · refine .inr ⟨dw.goes i H hlt kp, fun H' => CIn D ca1 σ H1 L env0 vs g t el xs ys cs' (i + 1) H', fun H' p' => ⟨xs.length - (i + 1), by omega, rfl, hlt, p'⟩, fun x H' hy => ?_⟩
    have hx : xs[i]? = some xs[i] := by simp [hlt]
    obtain ⟨sm, px1⟩ := dw.yields i H x H' xs[i] kp hx hy
    have hd : xs.drop i = xs[i] :: xs.drop (i + 1) := List.drop_eq_getElem_cons hlt
    have r2 := r.grow sm
    have pa2 : RpAll D.K ca H' dn acc := RpAll.mono (.of_same sm) _ _ pa
    have kp2 : Kp H1 H' := kp.trans (.of_same sm)
    have px2 : RpK wk D.K ca H' xs[i] x := RpK.mono ⟨.refl _, px⟩ px1
    rw [hd] at cg
    unfold compGo at cg
    split at cg
    · rename_i u m2 eg
      refine ⟨D.guard L (.lst acc), rfl, rfl, ca, _, xs[i], r2, px2, m2, eg, fun σ2 ca2 H2 hl2 hs2 x2 r3 => ⟨(wipe_eq hl2 hs2 hv).trans (wipe_wipe σ vs), ?_⟩⟩
      have pa3 : RpAll D.K ca2 H2 dn acc := RpAll.mono x2 _ _ pa2
      split at cg
      · rename_i m3 et
        refine ⟨D.guard L (.lst acc), rfl, rfl, RdT.okk r3 et fun ca3 H3 x3 r4 => ?_⟩
        rw [if_pos rfl]
        split at cg
        · rename_i y m4 ee
          refine ⟨D.guard L (.lst acc), rfl, rfl, RdE.okk r4 ee fun v ca4 H4 x4 r5 p5 => ?_⟩
          have pa5 : RpAll D.K ca4 H4 dn acc := RpAll.mono (x3.trans x4) _ _ pa3
          split at cg
          · rename_i ys2 cs2 ec
            cases cg
            have hlen : acc.length < sizeLine := by
              have : acc.length = dn.length := pa5.length
              rw [this]
              rw [ey] at hz
              simp only [List.length_append, List.length_cons] at hz
              omega
            refine ⟨acc, r5.at_guard hL0 nt_lst, hlen, ?_⟩
            have hb : Rel (D.guard L (.lst acc)) ca4 (L2.wipe σ vs) H4 ⟨env0, m4.cells⟩ := r2.turned r5 (x2.trans (x3.trans x4)) hs2 (fun i hi => by rw [heq _ _ _ ee, htq _ _ _ et]; exact hgq _ _ _ eg i hi) hv hw
            have x5 : Kp H4 (upd H4 L (.lst (acc ++ [v]))) := Kp.upd_mut (r5.at_guard hL0 nt_lst) Mut_lst
            exact ⟨ca4, acc ++ [v], m4.cells, dn ++ [y], ys2, kp2.trans ((x2.trans (x3.trans x4)).kp.trans x5), px.trans (x2.trans (x3.trans x4)).pre, hb.reguard hL0 ⟨Mut_lst, .lst⟩ nt_lst, RpAll.mono ⟨x5, List.prefix_refl _⟩ _ _ (pa5.append (.one p5)), ec, by rw [ey]; simp⟩
          · cases cg
        · cases cg
      · rename_i m3 et
        refine ⟨D.guard L (.lst acc), rfl, rfl, RdT.okk r3 et fun ca3 H3 x3 r4 => ?_⟩
        rw [if_neg (by decide)]
        have hb : Rel (D.guard L (.lst acc)) ca3 (L2.wipe σ vs) H3 ⟨env0, m3.cells⟩ := r2.turned r4 (x2.trans x3) hs2 (fun i hi => by rw [htq _ _ _ et]; exact hgq _ _ _ eg i hi) hv hw
        exact ⟨ca3, acc, m3.cells, dn, rs, kp2.trans (x2.trans x3).kp, px.trans (x2.trans x3).pre, hb, RpAll.mono x3 _ _ pa3, cg, ey⟩
      · cases cg
    · cases cg
  · have e : i = xs.length := by omega
    subst e
    rw [List.drop_length] at cg
    unfold compGo at cg
    cases cg
    rw [List.append_nil] at ey
    subst ey
    exact .inl ⟨dw.stops H kp, hq H acc ca kp px r pa⟩
theorem RdI.bind {wk : Bool} {D : DC} {Wx : WX} {σ : L2.St} {ca : CA} {H : Hp} {ms : MS} {ma : LM} {β : Type} {f : List W → MS → R β} {P : β → MS → Prop} {Q : It → Hp → Prop} (r : Rel D ca σ H ms) (h : Po D Wx σ ca H ((ma ms).bind f) P)
    (q : ∀ ws J ms1 ca1 H1, Ext ca H ca1 H1 → Rel D ca1 σ H1 ms1 → DWalk wk D.K J ca1 H1 ws → Po D Wx σ ca H (f ws ms1) P → Q J H1) : RdI wk D Wx ma σ H Q := by
  refine ⟨ca, ms, r, ?_⟩
  cases e : ma ms with
  | ok w ms1 =>
    rw [e] at h
    exact fun J ca1 H1 x1 r1 p1 => q w J ms1 ca1 H1 x1 r1 p1 h
  | err c fs m =>
    rw [e] at h
    exact h
  | bad =>
    rw [e] at h
    exact h
theorem ownFree_at {env : List (Option Sl)} {own : List Nat} (h : ¬ ownFree env own = false) : ∀ i ∈ own, Sl.isOwn env[i]? = false := fun i hi => by
  unfold ownFree at h
  rw [Bool.not_eq_false, List.all_eq_true] at h
  simpa using h i hi
theorem comp_of {wk : Bool} {D : DC} {Wx : WX} {it : LM} {g : GM} {t : TM} {el : EM} {sl own : List Nat} {σ : L2.St} {H : Hp} {Q : VK} (hgq : GQ sl g) (htq : TQt t) (heq : EQt el) (hv : ∀ i ∈ sl, i ∈ own) (h : RdF D Wx (fComp it g t el own) σ H Q) :
    tLc (RdI wk D Wx it) (gAny_ wk D sl g) (tAny_ D t) (eAny_ D el) own σ H Q := by
  obtain ⟨ca, ms, r, h⟩ := h
  refine RdI.bind r h fun ws J ms1 ca1 H1 x1 r1 dw h1 => fun L hL => ?_
  by_cases hof : ownFree ms1.env own = false
  · rw [if_pos hof] at h1; exact h1.elim
  rw [if_neg hof] at h1
  split at h1
  · rename_i ys cs' ec
    by_cases hz : szOk ys.length = true
    · rw [if_pos hz] at h1
      have rw1 := r1.wipe own
      refine comp_walk hgq htq heq hv wipeE_at hL rw1 dw ec (szOk_le hz) fun H2 acc ca2 kp px r2 pa => ?_
      have hL0 := r1.not_ca0 hL
      have h0 := r1.h0_none hL
      have r3 := r2.ungrow hL0 h0 ⟨Mut_lst, .lst⟩
      have ke : Kp H2 (erase H2 L) := .erase (r2.at_guard hL0 nt_lst) Mut_lst
      have xx : Ext ca1 H1 ca2 (erase H2 L) := ⟨kp.trans ke, px⟩
      have r4 : Rel D ca2 σ (erase H2 L) ⟨ms1.env, cs'⟩ := r1.back r3 xx fun i y e1 e2 => by
        have hi : i ∉ own := fun z => by rw [ownFree_at hof i z] at e1; cases e1
        refine ⟨?_, wipe_keep hi⟩
        show (wipeE ms1.env own)[i]? = _
        rw [← e2]
        exact wipeE_keep hi
      have := h1 L acc ca2 (erase H2 L) (x1.trans xx) r4 erase_same (RpAll.mono ⟨ke, List.prefix_refl _⟩ _ _ pa)
      rw [upd_erase (r2.at_guard hL0 nt_lst)] at this
      exact this
    · rw [if_neg hz] at h1; exact h1.elim
  · exact h1.elim
section
variable {wk : Bool} {D : DC} {Wx : WX} {X : Cx} {elt tg iter : Expr} {ifs : List Expr} {scope : Scope} {own : List (Str × Nat)} {sl : List Nat} {pos : Pos} {it : LM} {g : GM} {t : TM} {el : EM}
/-- what is inside of a comprehension's block -/
def Blks (X : Cx) (scope : Scope) (P : Cx → Prop) : Prop := ∀ (s : Shared) (H : Hp) (C : Addr) (cl : List (Str × Addr)) (fp : List Addr), P (X.blk s H scope (compEnvC scope cl C X.env) fp)
theorem df_comp (hK : D.K = X.K) (hc : X.calm = true) (hN : X.N.Nodup) (hi : DI wk D Wx X tg iter it) (ok : BlkOk X.N X.env.scope scope own) (hg : Blks X scope fun Y => ∀ D' : DC, D'.K = X.K → D'.sx = D.sx → DG wk D' Y tg sl g)
    (ht : Blks X scope fun Y => ∀ D' : DC, D'.K = X.K → D'.sx = D.sx → PTs Y ifs (RdT D' W0 t)) (he : Blks X scope fun Y => ∀ D' : DC, D'.K = X.K → D'.sx = D.sx → DE D' W0 Y elt el) (htq : TQt t) (heq : EQt el) (hv : ∀ i ∈ sl, i ∈ own.map (·.2)) (hs : ∀ x, foldedSetIterable iter X.env x = pure x := by intro _; rfl) :
    DF D Wx X (.ListComp elt [⟨tg, iter, ifs, 0⟩] scope pos) (fComp it g t el (own.map (·.2))) :=
  PE.mono (pe_lc hc hN hi ok (g := gAny_ wk D sl g) (tt := tAny_ D t) (te := eAny_ D el)
    (fun s H C cl fp => ⟨fun pins s' σ H' v u Q I r ⟨D', hD, hS, h⟩ => (hg s H C cl fp D' (hD.trans hK) hS).pg.run pins s' σ H' v u Q I r h⟩)
    (fun s H C cl fp => ⟨fun pins s' σ H' Q I ⟨D', hD, hS, h⟩ => (ht s H C cl fp D' (hD.trans hK) hS).run pins s' σ H' Q I h⟩)
    (fun s H C cl fp => ⟨fun pins s' σ H' Q I ⟨D', hD, hS, h⟩ => (he s H C cl fp D' (hD.trans hK) hS).run pins s' σ H' Q I h⟩) hs) fun σ H Q h => comp_of (hg X.s_0 X.H_0 0 [] [] D hK rfl).gq htq heq hv h
end
end DL
namespace DL
open PySem PySem.Spec PyProof.Rows L2
theorem env_own {env : List (Option Sl)} {i : Nat} {y : Sl} (h : env[i]? = some (some y)) : i < env.length := by
  rcases Nat.lt_or_ge i env.length with h1 | h1
  · exact h1
  · rw [List.getElem?_eq_none h1] at h; cases h
section
variable {D : DC} {ca : CA} {σ : L2.St} {H : Hp} {ms : MS}
theorem Rel.not_ca (r : Rel D ca σ H ms) {L : Addr} (h : H L = none) : L ∉ ca.flatten := fun hm => by
  by_cases st : D.st = true
  · obtain ⟨o', e'⟩ := r.cell_some st hm
    rw [h] at e'; cases e'
  · have hl := r.len
    rw [if_neg st] at hl
    rw [hl.2] at hm
    exact r.not_ca0 h hm
theorem SlAt.own {D : DC} {v : V} {y : Sl} (h : SlAt D ca H v y) (o : Sl.isOwn (some (some y)) = true) : ∃ p, v = .ref p ∧ D.H0 p = none ∧ OwnAt D.K ca H p y := by
  cases y with
  | fz w => cases o
  | pin w => cases o
  | ow xs => exact h
  | od xs => exact h
  | on xs => exact h
theorem SlAt.of_own {D : DC} {p : Addr} {y : Sl} (h0 : D.H0 p = none) (h : OwnAt D.K ca H p y) : SlAt D ca H (.ref p) y := by
  cases y with
  | fz w => exact h.elim
  | pin w => exact h.elim
  | ow xs => exact ⟨p, rfl, h0, h⟩
  | od xs => exact ⟨p, rfl, h0, h⟩
  | on xs => exact ⟨p, rfl, h0, h⟩
theorem OwnAt.mut {K : PySem.W.Frag} {p : Addr} {y : Sl} (h : OwnAt K ca H p y) : ∃ o, H p = some o ∧ Mut (some o) := by
  cases y with
  | fz w => exact h.elim
  | pin w => exact h.elim
  | ow xs => obtain ⟨vs, h, _⟩ := h; exact ⟨_, h, trivial⟩
  | od xs => obtain ⟨vs, h, _⟩ := h; exact ⟨_, h, trivial⟩
  | on xs => obtain ⟨_, _, xs, h, _⟩ := h; exact ⟨_, h, trivial⟩
theorem OwnAt.notab {K : PySem.W.Frag} {p : Addr} {y : Sl} {o : HO} (h : OwnAt K ca H p y) (e : H p = some o) : NoTab p o := by
  cases y with
  | fz w => exact h.elim
  | pin w => exact h.elim
  | ow xs => obtain ⟨vs, h, _⟩ := h; rw [e] at h; cases h; exact .lst
  | od xs => obtain ⟨vs, h, _⟩ := h; rw [e] at h; cases h; exact .dK
  | on xs => obtain ⟨_, _, xs, h, _⟩ := h; rw [e] at h; cases h; exact .dx
/-- a new own thing -/
theorem Rel.own_new {i : Nat} {p : Addr} {y : Sl} {o : HO} (r : Rel D ca σ H ms) (np : H p = none) (hy : OwnAt D.K ca (upd H p o) p y) (hyo : Sl.isOwn (some (some y)) = true) :
    Rel D ca (σ.set i (some (V.ref p))) (upd H p o) { ms with env := ms.env.set i (some y) } := by
  have g : Same H (upd H p o) := Same.upd_new np
  have r2 := r.grow g
  have h0 := r.h0_none np
  have hca := r.not_ca np
  have hl : ms.env.length = σ.length := r.slen
  have ne : ∀ (j : Nat) (q : Addr), Sl.isOwn ms.env[j]? = true → σ[j]? = some (some (.ref q)) → q ≠ p := fun j q e1 e2 z => by
    subst z
    obtain ⟨x, hx⟩ := isOwn_some e1
    rw [hx] at e1
    obtain ⟨v, e3, sl⟩ := r.slots j x hx
    rw [e2] at e3
    cases e3
    obtain ⟨p', ep, _, oa⟩ := sl.own e1
    cases ep
    obtain ⟨u, hu, _⟩ := oa.mut
    rw [np] at hu; cases hu
  have isref : ∀ (j : Nat) (v : V), Sl.isOwn ms.env[j]? = true → σ[j]? = some (some v) → ∃ q, v = .ref q := fun j v e1 e2 => by
    obtain ⟨x, hx⟩ := isOwn_some e1
    rw [hx] at e1
    obtain ⟨v', e3, sl⟩ := r.slots j x hx
    rw [e2] at e3
    cases e3
    obtain ⟨p', ep, _, oa⟩ := sl.own e1
    exact ⟨p', ep⟩
  refine ⟨r2.len, r2.cells, r2.nd, r2.pre, r2.fr, r2.new, by simp [r.slen], fun j z e => ?_, fun j k u hjk e1 e2 e3 e4 => ?_, r2.c0, fun j q e1 e2 => ?_, r2.tb, r2.fb⟩
  · have e : (ms.env.set i (some y))[j]? = some (some z) := e
    by_cases hij : i = j
    · subst hij
      by_cases hlt : i < ms.env.length
      · rw [List.getElem?_set_self hlt] at e
        cases e
        exact ⟨.ref p, List.getElem?_set_self (by rw [← hl]; exact hlt), .of_own h0 hy⟩
      · rw [List.getElem?_eq_none (by simpa using hlt)] at e; cases e
    · rw [List.getElem?_set_ne hij] at e
      rw [List.getElem?_set_ne hij]
      exact r2.slots j z e
  · have e1 : Sl.isOwn (ms.env.set i (some y))[j]? = true := e1
    have e2 : Sl.isOwn (ms.env.set i (some y))[k]? = true := e2
    by_cases hij : i = j
    · subst hij
      rw [List.getElem?_set_ne hjk] at e2 e4
      have hlt : i < σ.length := by
        rcases Nat.lt_or_ge i σ.length with h | h
        · exact h
        · rw [List.getElem?_eq_none (by simpa using h)] at e3; cases e3
      rw [List.getElem?_set_self hlt] at e3
      cases e3
      exact ne k p e2 e4 rfl
    · rw [List.getElem?_set_ne hij] at e1 e3
      by_cases hik : i = k
      · subst hik
        have hlt : i < σ.length := by
          rcases Nat.lt_or_ge i σ.length with h | h
          · exact h
          · rw [List.getElem?_eq_none (by simpa using h)] at e4; cases e4
        rw [List.getElem?_set_self hlt] at e4
        cases e4
        exact ne j p e1 e3 rfl
      · rw [List.getElem?_set_ne hik] at e2 e4
        exact r.sep j k u hjk e1 e2 e3 e4
  · have e1 : Sl.isOwn (ms.env.set i (some y))[j]? = true := e1
    by_cases hij : i = j
    · subst hij
      have hlt : i < σ.length := by
        rcases Nat.lt_or_ge i σ.length with h | h
        · exact h
        · rw [List.getElem?_eq_none (by simpa using h)] at e2; cases e2
      rw [List.getElem?_set_self hlt] at e2
      cases e2
      exact hca
    · rw [List.getElem?_set_ne hij] at e1 e2
      exact r.oca j q e1 e2
def frW : Sl → W
  | .fz w => w
  | .ow xs => .list xs
  | .od kvs => .dict kvs
  | .on _ => .none
  | .pin _ => .none
/-- an own thing is frozen -/
theorem Rel.freeze {i : Nat} {p : Addr} {x : Sl} {u : HO} (od : Obj) (r : Rel D ca σ H ms) (hi : ms.env[i]? = some (some x)) (ho : Sl.isOwn (some (some x)) = true) (hσ : σ[i]? = some (some (.ref p))) (hu : H p = some u) (hn : ∀ kvs, x ≠ .on kvs) :
    Rel D ca σ (upd H p (.frz od u)) { ms with env := ms.env.set i (some (.fz (frW x))) } := by
  have hlt := env_own hi
  obtain ⟨v, e1, sl⟩ := r.slots i x hi
  rw [hσ] at e1
  cases e1
  obtain ⟨p', ep, h0, oa⟩ := sl.own ho
  cases ep
  obtain ⟨u', hu', mu⟩ := oa.mut
  rw [hu] at hu'
  cases hu'
  have kp : Kp H (upd H p (.frz od u)) := Kp.upd_mut hu mu
  have hca : p ∉ ca.flatten := r.oca i p (by rw [hi]; exact ho) hσ
  have own' : ∀ (j : Nat), Sl.isOwn (ms.env.set i (some (.fz (frW x))))[j]? = true → i ≠ j ∧ Sl.isOwn ms.env[j]? = true := fun j e => by
    by_cases hij : i = j
    · subst hij; rw [List.getElem?_set_self hlt] at e; cases e
    · rw [List.getElem?_set_ne hij] at e; exact ⟨hij, e⟩
  refine ⟨r.len, fun k c as e1 e2 => ?_, r.nd, r.pre, fun b q hb hz hn => ?_, r.new, by simp [r.slen], fun j z e => ?_, fun j k u hjk e1 e2 e3 e4 => ?_, r.c0, fun j q e1 e2 => r.oca j q (own' j e1).2 e2, tabs_upd r.tb hu (oa.notab hu).1 (oa.notab hu).2, r.fb⟩
  · exact (r.cells k c as e1 e2).at_ kp fun b hb o2 h => by
      rw [upd_ne (fun z => by subst z; exact hca (flat_mem e2 hb))]; exact h
  · rw [upd_ne (fun z => by subst z; rw [h0] at hb; cases hb)]
    exact r.fr b q hb hz hn
  · have e : (ms.env.set i (some (.fz (frW x))))[j]? = some (some z) := e
    by_cases hij : i = j
    · subst hij
      rw [List.getElem?_set_self hlt] at e
      cases e
      refine ⟨.ref p, hσ, ?_⟩
      cases x with
      | fz w => cases ho
      | pin w => cases ho
      | ow xs =>
        obtain ⟨vs, a, b⟩ := oa
        rw [hu] at a
        cases a
        simp only [SlAt, frW, Rp]
        exact ⟨p, vs, rfl, .inl ⟨od, upd_same⟩, RpAll.mono ⟨kp, List.prefix_refl _⟩ _ _ b⟩
      | od xs =>
        obtain ⟨vs, a, b⟩ := oa
        rw [hu] at a
        cases a
        simp only [SlAt, frW, Rp]
        exact .inr (.inl ⟨p, vs, rfl, ⟨od, upd_same⟩, RpKv.mono ⟨kp, List.prefix_refl _⟩ _ _ b⟩)
      | on xs => exact absurd rfl (hn xs)
    · rw [List.getElem?_set_ne hij] at e
      obtain ⟨v, e1, q⟩ := r.slots j z e
      refine ⟨v, e1, ?_⟩
      cases hz : Sl.isOwn (some (some z)) with
      | false =>
        cases z with
        | fz w => exact Rp.mono ⟨kp, List.prefix_refl _⟩ _ _ q
        | pin w => exact q
        | ow xs => cases hz
        | od xs => cases hz
        | on xs => cases hz
      | true =>
        obtain ⟨p2, ep, h2, oa2⟩ := q.own hz
        subst ep
        have hne : p2 ≠ p := fun z2 => by
          subst z2
          exact r.sep i j _ hij (by rw [hi]; exact ho) (by rw [e]; exact hz) hσ e1
        refine .of_own h2 ?_
        cases z with
        | fz w => cases hz
        | pin w => cases hz
        | ow xs => obtain ⟨vs, a, b⟩ := oa2; exact ⟨vs, by rw [upd_ne hne]; exact a, RpAll.mono ⟨kp, List.prefix_refl _⟩ _ _ b⟩
        | od xs => obtain ⟨vs, a, b⟩ := oa2; exact ⟨vs, by rw [upd_ne hne]; exact a, RpKv.mono ⟨kp, List.prefix_refl _⟩ _ _ b⟩
        | on xs => exact NestAt.mono ⟨kp, List.prefix_refl _⟩ (fun o e => by rw [upd_ne hne]; exact e) oa2
  · exact r.sep j k u hjk (own' j e1).2 (own' k e2).2 e3 e4
end
end DL
namespace DL
open PySem PySem.Spec PyProof.Rows L2
def FDQ (D : DC) (σ : L2.St) (ca : CA) (H : Hp) (Q : VK) (xs : List (W × W)) (ms' : MS) : Prop := ∀ p vs ca' H', Ext ca H ca' H' → Rel D ca' σ H' ms' → H' p = none → RpKv D.K ca' H' xs vs → Q (.ref p) (upd H' p (.dK vs))
/-- a new dict of tuple keys -/
def FNQ (D : DC) (σ : L2.St) (ca : CA) (H : Hp) (Q : VK) (kvs : List (W × W)) (ms' : MS) : Prop := ∀ p xs ca' H', Ext ca H ca' H' → Rel D ca' σ H' ms' → H' p = none → (p == sysModules) = false → kvs.length ≤ sizeLine → (xs.map (·.1)).Nodup → RpN D.K ca' H' kvs xs → Q (.ref p) (upd H' p (DX p xs))
abbrev KM := MS → R (List (W × W))
def RdD (D : DC) (Wx : WX) (m : KM) : TE := fun σ H Q => ∃ ca ms, Rel D ca σ H ms ∧ Po D Wx σ ca H (m ms) (FDQ D σ ca H Q)
def DD (D : DC) (Wx : WX) (X : Cx) (e : Expr) (m : KM) : Prop := PE X e (RdD D Wx m)
abbrev VM := MS → R Sl
def VQ (D : DC) (σ : L2.St) (ca : CA) (H : Hp) (Q : VK) (x : Sl) (ms' : MS) : Prop := match x with
  | .fz w => EQ D σ ca H Q w ms'
  | .ow xs => FQ D σ ca H Q xs ms'
  | .od kvs => FDQ D σ ca H Q kvs ms'
  | .on kvs => FNQ D σ ca H Q kvs ms'
  | .pin _ => True
def RdV (D : DC) (Wx : WX) (m : VM) : TE := fun σ H Q => ∃ ca ms, Rel D ca σ H ms ∧ Po D Wx σ ca H (m ms) (VQ D σ ca H Q)
def DV (D : DC) (Wx : WX) (X : Cx) (e : Expr) (m : VM) : Prop := PE X e (RdV D Wx m)
def vFz (a : EM) : VM := fun m => (a m).bind fun w m => .ok (.fz w) m
def vOw (a : LM) : VM := fun m => (a m).bind fun w m => .ok (.ow w) m
def vOd (a : KM) : VM := fun m => (a m).bind fun w m => .ok (.od w) m
def vOn (a : KM) : VM := fun m => (a m).bind fun w m => .ok (.on w) m
theorem Po.ok {D : DC} {Wx : WX} {σ : L2.St} {ca : CA} {H : Hp} {α β : Type} {r : R α} {f : α → β} {P : β → MS → Prop} (h : Po D Wx σ ca H (r.bind fun w m => .ok (f w) m) P) : Po D Wx σ ca H r fun w m => P (f w) m := by
  cases r with
  | ok a m => exact h
  | err c fs m => exact h
  | bad => exact h
section
variable {D : DC} {Wx : WX} {X : Cx} {e : Expr} {ma : EM} {ml : LM} {mk : KM} {mv : VM}
theorem dv_fz (h : DE D Wx X e ma) : DV D Wx X e (vFz ma) := PE.mono h fun σ H Q ⟨ca, ms, r, h⟩ => ⟨ca, ms, r, h.ok⟩
theorem dv_ow (h : DF D Wx X e ml) : DV D Wx X e (vOw ml) := PE.mono h fun σ H Q ⟨ca, ms, r, h⟩ => ⟨ca, ms, r, h.ok⟩
end
theorem RdV.bind {D : DC} {Wx : WX} {σ : L2.St} {ca : CA} {H : Hp} {ms : MS} {ma : VM} {β : Type} {f : Sl → MS → R β} {P : β → MS → Prop} {Q : VK} (r : Rel D ca σ H ms) (h : Po D Wx σ ca H ((ma ms).bind f) P)
    (q : ∀ x ms1, Po D Wx σ ca H (f x ms1) P → VQ D σ ca H Q x ms1) : RdV D Wx ma σ H Q := by
  refine ⟨ca, ms, r, ?_⟩
  cases e : ma ms with
  | ok w ms1 =>
    rw [e] at h
    exact q w ms1 h
  | err c fs m =>
    rw [e] at h
    exact h
  | bad =>
    rw [e] at h
    exact h
def FP (D : DC) (ca : CA) (H : Hp) (Q : Ends) (f : Fl) (ms' : MS) : Prop := match f with
  | .next => ∀ σ' ca' H', Ext ca H ca' H' → Rel D ca' σ' H' ms' → Q.nx σ' H'
  | .brk => ∀ σ' ca' H', Ext ca H ca' H' → Rel D ca' σ' H' ms' → Q.bk σ' H'
  | .cont => ∀ σ' ca' H', Ext ca H ca' H' → Rel D ca' σ' H' ms' → Q.ct σ' H'
  | .ret w => ∀ v σ' ca' H', Ext ca H ca' H' → Rel D ca' σ' H' ms' → Rp D.K ca' H' w v → Q.rt v H'
section
variable {D : DC} {Wx : WX} {X : Cx} {Q : Ends} {σ : L2.St} {ca : CA} {H : Hp} {ms : MS} {m : SM}
theorem RdS.of (r : Rel D ca σ H ms) (h : Po D Wx σ ca H (m ms) (FP D ca H Q)) : RdS D Wx m Q σ H := ⟨ca, ms, r, h.imp fun f ms' q => by cases f <;> exact q⟩
theorem RdS.inv (h : RdS D Wx m Q σ H) : ∃ ca ms, Rel D ca σ H ms ∧ Po D Wx σ ca H (m ms) (FP D ca H Q) :=
  let ⟨ca, ms, r, h⟩ := h
  ⟨ca, ms, r, h.imp fun f ms' q => by cases f <;> exact q⟩
theorem FP.go {ca1 : CA} {H1 : Hp} (x : Ext ca H ca1 H1) : ∀ {f : Fl} {ms' : MS}, FP D ca H Q f ms' → FP D ca1 H1 Q f ms'
  | .next, _, q => fun σ' ca' H' x' => q σ' ca' H' (x.trans x')
  | .brk, _, q => fun σ' ca' H' x' => q σ' ca' H' (x.trans x')
  | .cont, _, q => fun σ' ca' H' x' => q σ' ca' H' (x.trans x')
  | .ret w, _, q => fun v σ' ca' H' x' => q v σ' ca' H' (x.trans x')
/-- the same elsewhere -/
theorem Po.goS {σ1 : L2.St} {ca1 : CA} {H1 : Hp} {r : R Fl} (x : Ext ca H ca1 H1) (h : Po D Wx σ ca H r (FP D ca H Q)) : Po D Wx σ1 ca1 H1 r (FP D ca1 H1 Q) := by
  have h2 := (h.ext x).imp (fun f ms' q => FP.go (D := D) (Q := Q) x q)
  cases r with
  | ok a m => exact h2
  | err c fs m => exact h2
  | bad => exact h2
end
def sNext : SM := fun m => .ok .next m
def sSeq (a b : SM) : SM := fun m => (a m).bind fun f m => match f with
  | .next => b m
  | .brk => .ok .brk m
  | .cont => .ok .cont m
  | .ret w => .ok (.ret w) m
def sDrop (a : EM) : SM := fun m => (a m).bind fun _ m => .ok .next m
def sRet (a : EM) : SM := fun m => (a m).bind fun w m => .ok (.ret w) m
def sIf (t : TM) (a b : SM) : SM := fun m => (t m).bind fun k m => if k = true then a m else b m
def sAsg (a : EM) (g : GM) : SM := fun m => (a m).bind fun w m => match g w m with
  | .ok _ m => .ok .next m
  | _ => .bad
def sSet (i : Nat) (a : VM) : SM := fun m => (a m).bind fun x m => .ok .next { m with env := m.env.set i (some x) }
section
variable {D : DC} {Wx : WX} {X : Cx} {st : Stmt} {rest a b : List Stmt} {e c tg : Expr} {pos : Pos} {m1 m2 : SM} {me : EM} {mt : TM} {mv : VM} {g : GM} {sl : List Nat}
theorem dss_nil : DSs D Wx X [] sNext := PSs.mono pss_nil fun Q σ H h => by
  obtain ⟨ca, ms, r, h⟩ := h.inv
  exact h σ ca H (.refl _ _) r
theorem seq_of {Q : Ends} {σ : L2.St} {H : Hp} (h : RdS D Wx (sSeq m1 m2) Q σ H) : tSeq (RdS D Wx m1) (RdS D Wx m2) Q σ H := by
  obtain ⟨ca, ms, r, h⟩ := h.inv
  refine RdS.of r ?_
  unfold sSeq at h
  cases e1 : m1 ms with
  | ok f ms1 =>
    rw [e1] at h
    cases f with
    | next => exact fun σ' ca' H' x r' => RdS.of r' (Po.goS x h)
    | brk => exact h
    | cont => exact h
    | ret w => exact h
  | err c fs m =>
    rw [e1] at h
    exact h
  | bad =>
    rw [e1] at h
    exact h
theorem dss_cons (h1 : DS D Wx X st m1) (h2 : DSs D Wx X rest m2) : DSs D Wx X (st :: rest) (sSeq m1 m2) := PSs.mono (pss_cons h1 h2) fun Q σ H h => seq_of h
theorem ds_ret (h : DE D Wx X e me) : DS D Wx X (.Return (some e) pos) (sRet me) := PS.mono (ps_ret h) fun Q σ H h => by
  obtain ⟨ca, ms, r, h⟩ := h.inv
  exact RdE.bind r h fun w v ms1 ca1 H1 x1 r1 p1 h1 => h1 v σ ca1 H1 x1 r1 p1
theorem ds_if (hc : DT D Wx X c mt) (ha : DSs D Wx X a m1) (hb : DSs D Wx X b m2) : DS D Wx X (.If c a b pos) (sIf mt m1 m2) := PS.mono (ps_if hc ha hb) fun Q σ H h => by
  obtain ⟨ca, ms, r, h⟩ := h.inv
  refine RdT.bind r h fun k ms1 ca1 H1 x1 r1 h1 => ?_
  cases k with
  | true => exact RdS.of r1 (Po.goS x1 h1)
  | false => exact RdS.of r1 (Po.goS x1 h1)
theorem ds_asg (he : DE D Wx X e me) (hg : DG false D X tg sl g) (hs : swapsWithSole [tg] e pos.line X.env = pure false := by rfl) (hw : swappedStores [tg] e X.env = pure none := by rfl)
    (h1 : (assignEach [tg] X.env).map (·.2) = [assign tg X.env] := by rfl) : DS D Wx X (.Assign [tg] e pos) (sAsg me g) := PS.mono (ps_asg he hg.pg hs hw h1) fun Q σ H h => by
  obtain ⟨ca, ms, r, h⟩ := h.inv
  refine RdE.bind r h fun w v ms1 ca1 H1 x1 r1 p1 h1 => ?_
  cases e1 : g w ms1 with
  | ok u m =>
    rw [e1] at h1
    exact ⟨ca1, ms1, w, r1, p1, m, e1, fun σ' ca' H' _ _ x r' => h1 σ' ca' H' (x1.trans x) r'⟩
  | err c fs m =>
    rw [e1] at h1
    exact h1.elim
  | bad =>
    rw [e1] at h1
    exact h1.elim
/-- the slot after a store -/
theorem VQ.set {σ : L2.St} {ca : CA} {H : Hp} {Q : VK} {x : Sl} {ms1 : MS} {i : Nat} (q : ∀ v ca' H', Ext ca H ca' H' → Rel D ca' (σ.set i (some v)) H' { ms1 with env := ms1.env.set i (some x) } → Q v H') : VQ D σ ca H Q x ms1 := by
  cases x with
  | fz w => exact fun v ca' H' x r p => q v ca' H' x (r.set p i)
  | pin w => exact trivial
  | ow xs => exact fun p vs ca' H' x r np rp => q _ ca' _ (x.trans (.of_same (Same.upd_new np))) (r.own_new np ⟨vs, upd_same, RpAll.mono (.of_same (Same.upd_new np)) _ _ rp⟩ rfl)
  | od xs => exact fun p vs ca' H' x r np rp => q _ ca' _ (x.trans (.of_same (Same.upd_new np))) (r.own_new np ⟨vs, upd_same, RpKv.mono (.of_same (Same.upd_new np)) _ _ rp⟩ rfl)
  | on xs => exact fun p vs ca' H' x r np h1 h2 h3 rp => q _ ca' _ (x.trans (.of_same (Same.upd_new np))) (r.own_new np ⟨h1, h2, vs, upd_same, h3, RpN.mono (.of_same (Same.upd_new np)) _ _ rp⟩ rfl)
theorem set_of {σ : L2.St} {H : Hp} {Q : Ends} {i : Nat} (h : RdS D Wx (sSet i mv) Q σ H) : tAsg (RdV D Wx mv) (gName i) Q σ H := by
  obtain ⟨ca, ms, r, h⟩ := h.inv
  exact RdV.bind r h fun x ms1 h1 => VQ.set fun v ca' H' x' r' => h1 _ ca' H' x' r'
theorem ds_set {i : Nat} {x : Str} {pos' : Pos} (hN : X.N.Nodup) (hi : X.N[i]? = some x) (hx : Loc X.env.scope x) (he : DV D Wx X e mv) (hs : swapsWith e (some (.Name x pos')) pos.line X.env = pure false := by rfl)
    (hf : X.fn x = true ∨ X.env.scope.names.lookup x = some .local := by first | exact .inl rfl | exact .inr rfl | assumption) : DS D Wx X (.Assign [.Name x pos'] e pos) (sSet i mv) :=
  PS.mono (ps_set hN hi hx he hs hf) fun Q σ H h => set_of h
/-- name = [..] on one line -/
theorem ds_setLc {wk : Bool} {i : Nat} {y : Str} {py : Pos} {elt tg iter : Expr} {ifs : List Expr} {scope : Scope} {own : List (Str × Nat)} {lpos spos : Pos} {it : LM} {g : GM} {t : TM} {el : EM} (hK : D.K = X.K) (hc : X.calm = true) (hN : X.N.Nodup) (hy : X.N[i]? = some y)
    (hyl : X.env.scope.names.lookup y = some .local) (hsw : swapsWith (.ListComp elt [⟨tg, iter, ifs, 0⟩] scope lpos) (some (.Name y py)) spos.line X.env = pure true)
    (hi : DI wk D Wx X tg iter it) (ok : BlkOk X.N X.env.scope scope own) (hg : Blks X scope fun Y => ∀ D' : DC, D'.K = X.K → D'.sx = D.sx → DG wk D' Y tg sl g)
    (ht : Blks X scope fun Y => ∀ D' : DC, D'.K = X.K → D'.sx = D.sx → PTs Y ifs (RdT D' W0 t)) (he : Blks X scope fun Y => ∀ D' : DC, D'.K = X.K → D'.sx = D.sx → DE D' W0 Y elt el) (htq : TQt t) (heq : EQt el) (hv : ∀ i ∈ sl, i ∈ own.map (·.2)) (hs : ∀ x, foldedSetIterable iter X.env x = pure x := by intro _; rfl) :
    DS D Wx X (.Assign [.Name y py] (.ListComp elt [⟨tg, iter, ifs, 0⟩] scope lpos) spos) (sSet i (vOw (fComp it g t el (own.map (·.2))))) :=
  PS.mono (ps_setLc hc hN hy hyl hsw hi ok (g := gAny_ wk D sl g) (tt := tAny_ D t) (te := eAny_ D el)
    (fun s H C cl fp => ⟨fun pins s' σ H' v u Q I r ⟨D', hD, hS, h⟩ => (hg s H C cl fp D' (hD.trans hK) hS).pg.run pins s' σ H' v u Q I r h⟩)
    (fun s H C cl fp => ⟨fun pins s' σ H' Q I ⟨D', hD, hS, h⟩ => (ht s H C cl fp D' (hD.trans hK) hS).run pins s' σ H' Q I h⟩)
    (fun s H C cl fp => ⟨fun pins s' σ H' Q I ⟨D', hD, hS, h⟩ => (he s H C cl fp D' (hD.trans hK) hS).run pins s' σ H' Q I h⟩) hs) fun Q σ H h => by
      obtain ⟨ca, ms, r, h1⟩ := set_of h
      exact comp_of (hg X.s_0 X.H_0 0 [] [] D hK rfl).gq htq heq hv ⟨ca, ms, r, h1.ok⟩
def forGo (g : GM) (body : SM) : List W → MS → R Fl
  | [], m => .ok .next m
  | x :: xs, m => match g x m with
    | .ok _ m => (body m).bind fun f m => match f with
      | .next => forGo g body xs m
      | .cont => forGo g body xs m
      | .brk => .ok .next m
      | .ret w => .ok (.ret w) m
    | _ => .bad
def sFor (it : LM) (g : GM) (body : SM) : SM := fun m => (it m).bind fun xs m => forGo g body xs m
theorem ds_for {wk : Bool} {iter : Expr} {body : List Stmt} {it : LM} {mb : SM} (hp : PassesOwn (model X.prog X.w) X.A X.env X.xe) (hc : X.calm = true) (hi : DI wk D Wx X tg iter it) (hg : DG wk D X tg sl g) (hb : DSs D Wx X body mb)
    (hs : ∀ x, foldedSetIterable iter X.env x = pure x := by intro _; rfl) : DS D Wx X (.For tg iter body [] pos) (sFor it g mb) := PS.mono (ps_for hp hc hi hg.pg hb hs) fun Q σ H h => by
  obtain ⟨ca, ms, r, h⟩ := h.inv
  refine RdI.bind r h fun xs J ms1 ca1 H1 x1 r1 dw h1 => ?_
  refine ⟨fun i m σ' H' => m = xs.length - i ∧ i ≤ xs.length ∧ ∃ ca' ms', Ext ca1 H1 ca' H' ∧ Rel D ca' σ' H' ms' ∧ Po D Wx σ ca' H' (forGo g mb (xs.drop i) ms') (FP D ca' H' Q), ⟨xs.length, by simp, Nat.zero_le _, ca1, ms1, .refl _ _, r1, Po.goS x1 (by simpa using h1)⟩, ?_⟩
  rintro i m σ' H' ⟨rfl, hle, ca', ms', x', r', h'⟩
  by_cases hlt : i < xs.length
  · refine .inr ⟨dw.goes i H' hlt x'.kp, fun σ2 H2 => ∃ ca2 ms2, Ext ca1 H1 ca2 H2 ∧ Rel D ca2 σ2 H2 ms2 ∧ Po D Wx σ ca2 H2 (forGo g mb (xs.drop (i + 1)) ms2) (FP D ca2 H2 Q), fun σ2 H2 q => ⟨xs.length - (i + 1), by omega, rfl, hlt, q⟩, fun x H2 hy => ?_⟩
    have hx : xs[i]? = some xs[i] := by simp [hlt]
    obtain ⟨sm, px⟩ := dw.yields i H' x H2 xs[i] x'.kp hx hy
    rw [List.drop_eq_getElem_cons hlt] at h'
    unfold forGo at h'
    split at h'
    · rename_i u m2 eg
      refine ⟨ca', ms', xs[i], r'.grow sm, RpK.mono ⟨.refl _, x'.pre⟩ px, m2, eg, fun σ3 ca3 H3 _ _ x3 r3 => ?_⟩
      have h3 : Po D Wx σ ca3 H3 _ (FP D ca3 H3 Q) := Po.goS ((Ext.of_same sm).trans x3) h'
      refine RdS.of r3 ?_
      have xx : Ext ca1 H1 ca3 H3 := x'.trans ((Ext.of_same sm).trans x3)
      cases eb : mb m2 with
      | ok f m4 =>
        rw [eb] at h3
        cases f with
        | next => exact fun σ4 ca4 H4 x4 r4 => ⟨ca4, m4, xx.trans x4, r4, Po.goS x4 h3⟩
        | cont => exact fun σ4 ca4 H4 x4 r4 => ⟨ca4, m4, xx.trans x4, r4, Po.goS x4 h3⟩
        | brk => exact h3
        | ret w => exact h3
      | err c fs m =>
        rw [eb] at h3
        exact h3
      | bad =>
        rw [eb] at h3
        exact h3
    · exact h'.elim
  · have e : i = xs.length := by omega
    subst e
    rw [List.drop_length] at h'
    exact .inl ⟨dw.stops H' x'.kp, h' σ' ca' H' (.refl _ _) r'⟩
def whGo (c : TM) (body : SM) : Nat → MS → R Fl
  | 0, _ => .bad
  | n + 1, m => (c m).bind fun k m => if k = true then (body m).bind fun f m => match f with
      | .next => whGo c body n m
      | .cont => whGo c body n m
      | .brk => .ok .next m
      | .ret w => .ok (.ret w) m
    else .ok .next m
def sWhile (fu : MS → Nat) (c : TM) (body : SM) : SM := fun m => whGo c body (fu m) m
end
end DL
namespace DL
open PySem PySem.Spec PyProof.Rows L2
def ownAt (env : List (Option Sl)) (i : Nat) : Option Sl := match env[i]? with
  | some (some (.ow xs)) => some (.ow xs)
  | some (some (.od kvs)) => some (.od kvs)
  | _ => none
theorem ownAt_some {env : List (Option Sl)} {i : Nat} {x : Sl} (h : ownAt env i = some x) : env[i]? = some (some x) ∧ Sl.isOwn (some (some x)) = true := by
  unfold ownAt at h
  split at h
  · rename_i e; cases h; exact ⟨e, rfl⟩
  · rename_i e; cases h; exact ⟨e, rfl⟩
  · cases h
theorem ownAt_non {env : List (Option Sl)} {i : Nat} {x : Sl} (h : ownAt env i = some x) : ∀ kvs, x ≠ .on kvs := fun kvs z => by
  subst z
  unfold ownAt at h
  split at h <;> cases h
section
variable {D : DC} {ca : CA} {σ : L2.St} {H : Hp} {ms : MS}
/-- where an own thing lies -/
theorem Rel.own_at {i : Nat} {x : Sl} (r : Rel D ca σ H ms) (h : ownAt ms.env i = some x) : ∃ p o, σ[i]? = some (some (.ref p)) ∧ OwnAt D.K ca H p x ∧ H p = some o ∧ Mut (some o) ∧ D.H0 p = none := by
  obtain ⟨h1, h2⟩ := ownAt_some h
  obtain ⟨v, e1, sl⟩ := r.slots i x h1
  obtain ⟨p, rfl, h0, oa⟩ := sl.own h2
  obtain ⟨o, ho, mu⟩ := oa.mut
  exact ⟨p, o, e1, oa, ho, mu, h0⟩
end
/-- nothing within that is a list or a dict -/
def lf : W → Bool
  | .list _ => false
  | .dict _ => false
  | .tuple xs => lfs xs
  | _ => true
where lfs : List W → Bool
  | [] => true
  | x :: xs => lf x && lfs xs
mutual
theorem Rp.lf {K : PySem.W.Frag} {ca ca' : CA} {H H' : Hp} (k : ∀ b o xs, H b = some (.frz o (.tup xs)) → H' b = some (.frz o (.tup xs))) : ∀ (w : W) (v : V), DL.lf w = true → Rp K ca H w v → Rp K ca' H' w v
  | .none, v, _, h => by simpa only [Rp] using h
  | .bool b, v, _, h => by simpa only [Rp] using h
  | .int b, v, _, h => by simpa only [Rp] using h
  | .str b, v, _, h => by simpa only [Rp] using h
  | .list xs, v, l, h => by simp [DL.lf] at l
  | .tuple xs, v, l, h => by
    simp only [Rp] at h ⊢
    obtain ⟨a, vs, e, f, r⟩ := h
    refine ⟨a, vs, e, ?_, RpAll.lf k xs vs (by simpa only [DL.lf] using l) r⟩
    rcases f with ⟨o, f, od⟩ | f
    · exact .inl ⟨o, k _ _ _ f, od⟩
    · exact .inr f
  | .dict kvs, v, l, h => by simp [DL.lf] at l
theorem RpAll.lf {K : PySem.W.Frag} {ca ca' : CA} {H H' : Hp} (k : ∀ b o xs, H b = some (.frz o (.tup xs)) → H' b = some (.frz o (.tup xs))) : ∀ (xs : List W) (vs : List V), DL.lf.lfs xs = true → RpAll K ca H xs vs → RpAll K ca' H' xs vs
  | [], vs, _, h => by simpa only [RpAll] using h
  | y :: ys, vs, l, h => by
    simp only [RpAll] at h ⊢
    simp only [DL.lf.lfs, Bool.and_eq_true] at l
    obtain ⟨v, r, e, h1, h2⟩ := h
    exact ⟨v, r, e, Rp.lf k y v l.1 h1, RpAll.lf k ys r l.2 h2⟩
end
def fsLf : List (Str × W) → Bool
  | [] => true
  | (_, w) :: r => lf w && fsLf r
def kvLf : List (W × W) → Bool
  | [] => true
  | (_, w) :: r => lf w && kvLf r
def cellLf : Cell → Bool
  | .draw _ _ _ _ => true
  | .inst _ fs => fsLf fs
  | .lst xs => lf.lfs xs
  | .dct kvs => kvLf kvs
  | .exc _ fs => fsLf fs
theorem RpFs.lf {K : PySem.W.Frag} {ca ca' : CA} {H H' : Hp} (k : ∀ b o xs, H b = some (.frz o (.tup xs)) → H' b = some (.frz o (.tup xs))) : ∀ (xs : List (Str × W)) (vs : List (Str × V)), fsLf xs = true → RpFs K ca H xs vs → RpFs K ca' H' xs vs
  | [], vs, _, h => by simpa only [RpFs] using h
  | (n, y) :: ys, vs, l, h => by
    simp only [RpFs] at h ⊢
    simp only [fsLf, Bool.and_eq_true] at l
    obtain ⟨v, r, e, h1, h2⟩ := h
    exact ⟨v, r, e, Rp.lf k y v l.1 h1, RpFs.lf k ys r l.2 h2⟩
theorem RpKv.lf {K : PySem.W.Frag} {ca ca' : CA} {H H' : Hp} (k : ∀ b o xs, H b = some (.frz o (.tup xs)) → H' b = some (.frz o (.tup xs))) : ∀ (xs : List (W × W)) (vs : List (Key × V)), kvLf xs = true → RpKv K ca H xs vs → RpKv K ca' H' xs vs
  | [], vs, _, h => by simpa only [RpKv] using h
  | (n, y) :: ys, vs, l, h => by
    simp only [RpKv] at h ⊢
    simp only [kvLf, Bool.and_eq_true] at l
    obtain ⟨q, v, r, e, e2, h1, h2⟩ := h
    exact ⟨q, v, r, e, e2, Rp.lf k y v l.1 h1, RpKv.lf k ys r l.2 h2⟩
def nvLf : List (W × W) → Bool
  | [] => true
  | (k, w) :: r => lf k && (lf w && nvLf r)
theorem RpN.lf {K : PySem.W.Frag} {ca ca' : CA} {H H' : Hp} (k : ∀ b o xs, H b = some (.frz o (.tup xs)) → H' b = some (.frz o (.tup xs))) : ∀ (xs : List (W × W)) (vs : List NE), nvLf xs = true → RpN K ca H xs vs → RpN K ca' H' xs vs
  | [], vs, _, h => by simpa only [RpN] using h
  | (n, y) :: ys, vs, l, h => by
    simp only [RpN] at h ⊢
    simp only [nvLf, Bool.and_eq_true] at l
    obtain ⟨q, b, u, v, t, e, h1, h2, h3, h4, h5, h6⟩ := h
    exact ⟨q, b, u, v, t, e, h1, h2, Rp.lf k _ _ l.1 h3, h4, Rp.lf k _ _ l.2.1 h5, RpN.lf k ys t l.2.2 h6⟩
def slLf : Option Sl → Bool
  | some (.ow xs) => lf.lfs xs
  | some (.od kvs) => kvLf kvs
  | some (.on kvs) => nvLf kvs
  | _ => true
/-- after a hold: the own thing is as it was -/
theorem Rel.thaw {D : DC} {ca ca' : CA} {σ : L2.St} {H H' : Hp} {ms ms' : MS} {i : Nat} {p : Addr} {x : Sl} {u : HO} {od : Obj} (r : Rel D ca σ H ms) (hx : ownAt ms.env i = some x) (hσ : σ[i]? = some (some (.ref p))) (hu : H p = some u)
    (r' : Rel D ca' σ H' ms') (x' : Ext ca (upd H p (.frz od u)) ca' H') (he : ms'.env = ms.env.set i (some (.fz (frW x)))) (hc : ms'.cells.all cellLf = true) (hoth : (ms.env.set i none).all slLf = true) :
    H' p = some (.frz od u) ∧ Ext ca H ca' (upd H' p u) ∧ Rel D ca' σ (upd H' p u) ⟨ms.env, ms'.cells⟩ ∧ ∀ w v, lf w = true → Rp D.K ca' H' w v → Rp D.K ca' (upd H' p u) w v := by
  obtain ⟨hi, ho⟩ := ownAt_some hx
  obtain ⟨p', o, hσ', oa, hp', mu, h0⟩ := r.own_at hx
  rw [hσ] at hσ'
  cases hσ'
  rw [hu] at hp'
  cases hp'
  have hf : H' p = some (.frz od u) := x'.kp.frz p od u upd_same
  have hlt := env_own hi
  -- what is kept in between
  have kp : Kp H (upd H' p u) := ⟨fun b xs e => by
      have hb : b ≠ p := fun z => by subst z; rw [hu] at e; cases e; exact mu
      rw [upd_ne hb]
      exact x'.kp.tup b xs (by rw [upd_ne hb]; exact e),
    fun b o2 v e => by
      have hb : b ≠ p := fun z => by subst z; rw [hu] at e; cases e; exact mu
      rw [upd_ne hb]
      exact x'.kp.frz b o2 v (by rw [upd_ne hb]; exact e)⟩
  have kt : ∀ b o xs, H' b = some (.frz o (.tup xs)) → upd H' p u b = some (.frz o (.tup xs)) := fun b o xs e => by
    have hb : b ≠ p := fun z => by subst z; rw [hf] at e; cases e; exact mu
    rw [upd_ne hb]; exact e
  have xx : Ext ca H ca' (upd H' p u) := ⟨kp, x'.pre⟩
  have hca' : p ∉ ca'.flatten := by
    intro hm
    have hst : H p ≠ none := by rw [hu]; exact fun z => nomatch z
    rcases r'.ca_split hm with h | h
    · exact r.oca i p (by rw [hi]; exact ho) hσ (r.ca0_sub h)
    · by_cases st : D.st = true
      · obtain ⟨k, as, e, hb⟩ := mem_flat hm
        have hl := r'.len
        rw [if_pos st] at hl
        have hk : k < ca'.length := by
          rcases Nat.lt_or_ge k ca'.length with h | h
          · exact h
          · rw [List.getElem?_eq_none h] at e; cases e
        have ec : ms'.cells[k]? = some ms'.cells[k] := by simp
        have cat := r'.cells k _ as ec e
        generalize hcc : ms'.cells[k] = c at cat
        cases c with
        | draw cs ls a rm =>
          obtain ⟨s, c, l, e1, h1, h2, h3⟩ := cat
          subst e1
          have e1 : p = s ∨ p = c ∨ p = l := by simpa using hb
          rcases e1 with rfl | rfl | rfl
          · rw [hf] at h1; cases h1
          · rw [hf] at h2; cases h2
          · rw [hf] at h3; cases h3
        | inst cn fs =>
          obtain ⟨y, dx, fs', e1, h1, h2, _⟩ := cat
          subst e1
          have e1 : p = y ∨ p = dx := by simpa using hb
          rcases e1 with rfl | rfl
          · rw [hf] at h1; cases h1
          · rw [hf] at h2; cases h2
        | lst xs =>
          obtain ⟨y, vs, e1, h1, _⟩ := cat
          subst e1
          have e1 : p = y := by simpa using hb
          subst e1
          rw [hf] at h1; cases h1
        | dct xs =>
          obtain ⟨y, vs, e1, h1, _⟩ := cat
          subst e1
          have e1 : p = y := by simpa using hb
          subst e1
          rw [hf] at h1; cases h1
        | exc cn fs =>
          obtain ⟨y, dx, fs', e1, h1, h2, _⟩ := cat
          subst e1
          have e1 : p = y ∨ p = dx := by simpa using hb
          rcases e1 with rfl | rfl
          · rw [hf] at h1; exact absurd (Option.some.inj h1) (fun z => exw_frz z.symm)
          · rw [hf] at h2; cases h2
      · have hl := r'.len
        rw [if_neg st] at hl
        rw [hl.2, List.drop_length] at h
        cases h
  refine ⟨hf, xx, ⟨r'.len, fun k c as e1 e2 => ?_, r'.nd, r'.pre, fun b q hb hz hn => ?_, r'.new, r.slen, fun j z e => ?_, r.sep, r.c0, fun j q e1 e2 hm => ?_, tabs_upd r'.tb hf (NoTab.frz (p := p)).1 NoTab.frz.2, r'.fb⟩, fun w v l h => Rp.lf kt w v l h⟩
  · have cat := r'.cells k c as e1 e2
    have hb : ∀ b ∈ as, ∀ o2, H' b = some o2 → upd H' p u b = some o2 := fun b hb o2 e => by
      rw [upd_ne (fun z => by subst z; exact hca' (flat_mem e2 hb))]; exact e
    cases c with
    | draw cs ls a rm =>
      obtain ⟨s, c, l, e1, h1, h2, h3⟩ := cat
      subst e1
      exact ⟨s, c, l, rfl, hb _ (by simp) _ h1, hb _ (by simp) _ h2, hb _ (by simp) _ h3⟩
    | inst cn fs =>
      obtain ⟨y, dx, fs', e3, h1, h2, h3⟩ := cat
      subst e3
      have hcl : cellLf (.inst cn fs) = true := by
        rw [List.all_eq_true] at hc
        exact hc _ (List.mem_of_getElem? e1)
      exact ⟨y, dx, fs', rfl, hb _ (by simp) _ h1, hb _ (by simp) _ h2, RpFs.lf kt _ _ hcl h3⟩
    | lst xs =>
      obtain ⟨y, vs, e3, h1, h2⟩ := cat
      subst e3
      have hcl : cellLf (.lst xs) = true := by
        rw [List.all_eq_true] at hc
        exact hc _ (List.mem_of_getElem? e1)
      exact ⟨y, vs, rfl, hb _ (by simp) _ h1, RpAll.lf kt _ _ hcl h2⟩
    | dct xs =>
      obtain ⟨y, vs, e3, h1, h2⟩ := cat
      subst e3
      have hcl : cellLf (.dct xs) = true := by
        rw [List.all_eq_true] at hc
        exact hc _ (List.mem_of_getElem? e1)
      exact ⟨y, vs, rfl, hb _ (by simp) _ h1, RpKv.lf kt _ _ hcl h2⟩
    | exc cn fs =>
      obtain ⟨y, dx, fs', e3, h1, h2, h3⟩ := cat
      subst e3
      have hcl : cellLf (.exc cn fs) = true := by
        rw [List.all_eq_true] at hc
        exact hc _ (List.mem_of_getElem? e1)
      exact ⟨y, dx, fs', rfl, hb _ (by simp) _ h1, hb _ (by simp) _ h2, RpFs.lf kt _ _ hcl h3⟩
  · rw [upd_ne (fun z => by subst z; rw [h0] at hb; cases hb)]
    exact r'.fr b q hb hz hn
  · have e : ms.env[j]? = some (some z) := e
    by_cases hij : i = j
    · subst hij
      rw [hi] at e
      cases e
      refine ⟨.ref p, hσ, .of_own h0 ?_⟩
      cases x with
      | fz w => cases ho
      | pin w => cases ho
      | ow xs =>
        obtain ⟨vs, a, b⟩ := oa
        rw [hu] at a
        cases a
        exact ⟨vs, upd_same, RpAll.mono xx _ _ b⟩
      | od xs =>
        obtain ⟨vs, a, b⟩ := oa
        rw [hu] at a
        cases a
        exact ⟨vs, upd_same, RpKv.mono xx _ _ b⟩
      | on xs => exact absurd rfl (ownAt_non hx xs)
    · obtain ⟨v0, e0, q0⟩ := r.slots j z e
      cases hz : Sl.isOwn (some (some z)) with
      | false =>
        cases z with
        | fz w => exact ⟨v0, e0, Rp.mono xx _ _ q0⟩
        | pin w => exact ⟨v0, e0, q0⟩
        | ow xs => cases hz
        | od xs => cases hz
        | on xs => cases hz
      | true =>
        have e' : ms'.env[j]? = some (some z) := by rw [he, List.getElem?_set_ne hij]; exact e
        obtain ⟨v, e1, q⟩ := r'.slots j z e'
        rw [e0] at e1
        cases e1
        obtain ⟨p2, ep, h2, oa2⟩ := q.own hz
        subst ep
        have hne : p2 ≠ p := fun z2 => by
          subst z2
          exact r.sep i j _ hij (by rw [hi]; exact ho) (by rw [e]; exact hz) hσ e0
        refine ⟨.ref p2, e0, .of_own h2 ?_⟩
        have hl : slLf (some z) = true := by
          rw [List.all_eq_true] at hoth
          exact hoth _ (List.mem_of_getElem? (i := j) (by rw [List.getElem?_set_ne hij]; exact e))
        cases z with
        | fz w => cases hz
        | pin w => cases hz
        | ow xs =>
          obtain ⟨vs, a, b⟩ := oa2
          exact ⟨vs, by rw [upd_ne hne]; exact a, RpAll.lf kt _ _ hl b⟩
        | od xs =>
          obtain ⟨vs, a, b⟩ := oa2
          exact ⟨vs, by rw [upd_ne hne]; exact a, RpKv.lf kt _ _ hl b⟩
        | on xs =>
          obtain ⟨s1, s2, vs, a, nn, b⟩ := oa2
          exact ⟨s1, s2, vs, by rw [upd_ne hne]; exact a, nn, RpN.lf kt _ _ hl b⟩
  · by_cases hij : i = j
    · subst hij
      rw [hσ] at e2
      cases e2
      exact hca' hm
    · exact r'.oca j q (by rw [he, List.getElem?_set_ne hij]; exact e1) e2 hm
def heldOk (env : List (Option Sl)) (i : Nat) (cs : List Cell) : Bool := cs.all cellLf && (env.set i none).all slLf
def eHold (i : Nat) (a : EM) : EM := fun m => match ownAt m.env i with
  | some x => match a { m with env := m.env.set i (some (.fz (frW x))) } with
    | .ok w m' => if (lf w && heldOk m.env i m'.cells) = true then .ok w { m' with env := m.env } else .bad
    | _ => .bad
  | none => .bad
def tHold (i : Nat) (a : TM) : TM := fun m => match ownAt m.env i with
  | some x => match a { m with env := m.env.set i (some (.fz (frW x))) } with
    | .ok w m' => if heldOk m.env i m'.cells = true then .ok w { m' with env := m.env } else .bad
    | _ => .bad
  | none => .bad
section
variable {D : DC} {Wx : WX} {X : Cx} {e : Expr} {me : EM} {mt : TM} {i : Nat}
def fHold (i : Nat) (a : LM) : LM := fun m => match ownAt m.env i with
  | some x => match a { m with env := m.env.set i (some (.fz (frW x))) } with
    | .ok ws m' => if (lf.lfs ws && heldOk m.env i m'.cells) = true then .ok ws { m' with env := m.env } else .bad
    | _ => .bad
  | none => .bad
theorem df_hold {ml : LM} (h : DF D Wx X e ml) (hq : ∀ s w s', ml s = .ok w s' → s'.env = s.env) : DF D Wx X e (fHold i ml) := PE.mono (pe_lock h) fun σ H Q ⟨ca, ms, r, h⟩ => by
  unfold fHold at h
  cases ex : ownAt ms.env i with
  | none => rw [ex] at h; exact h.elim
  | some x =>
    rw [ex] at h
    obtain ⟨p, u, hσ, oa, hu, mu, h0⟩ := r.own_at ex
    obtain ⟨h1, h2⟩ := ownAt_some ex
    refine ⟨p, u, hu, mu, fun od => ?_⟩
    have r1 := r.freeze od h1 h2 hσ hu (ownAt_non ex)
    cases em : ml { ms with env := ms.env.set i (some (.fz (frW x))) } with
    | ok w m' =>
      simp only [em] at h
      by_cases hk : (lf.lfs w && heldOk ms.env i m'.cells) = true
      · rw [if_pos hk] at h
        simp only [Bool.and_eq_true, heldOk] at hk
        refine ⟨ca, _, r1, ?_⟩
        rw [em]
        refine fun b vs ca' H' x' r' nb pv => ?_
        obtain ⟨hf, xx, rr, lfk⟩ := r.thaw ex hσ hu r' x' (hq _ _ _ em) hk.2.1 hk.2.2
        have hpb : p ≠ b := fun z => by subst z; rw [hf] at nb; cases nb
        refine ⟨by rw [upd_ne hpb]; exact hf, ?_⟩
        have kt : ∀ c o xs, H' c = some (.frz o (.tup xs)) → upd H' p u c = some (.frz o (.tup xs)) := fun c o xs e => by
          have hb : c ≠ p := fun z => by subst z; rw [hf] at e; cases e; exact mu
          rw [upd_ne hb]; exact e
        have eH : upd (upd H' b (.lst vs)) p u = upd (upd H' p u) b (.lst vs) := by
          funext c
          by_cases h1 : c = p
          · subst h1
            rw [upd_same, upd_ne hpb, upd_same]
          · rw [upd_ne h1]
            by_cases h2 : c = b
            · subst h2; rw [upd_same, upd_same]
            · rw [upd_ne h2, upd_ne h2, upd_ne h1]
        rw [eH]
        exact h b vs ca' _ xx rr (by rw [upd_ne (Ne.symm hpb)]; exact nb) (RpAll.lf kt _ _ hk.1 pv)
      · rw [if_neg hk] at h; exact h.elim
    | err c fs m => simp only [em] at h; exact h.elim
    | bad => simp only [em] at h; exact h.elim
end
end DL
namespace DL
open PySem PySem.Spec PyProof.Rows L2
def eOwn (i : Nat) (l : LM) (g : List W → List W → Option (W × List W)) : EM := fun m => match ownAt m.env i with
  | some (.ow _) => (l m).bind fun ws m => match ownAt m.env i with
    | some (.ow xs) => match g xs ws with
      | some (w, ys) => .ok w { m with env := m.env.set i (some (.ow ys)) }
      | none => .bad
    | _ => .bad
  | _ => .bad
section
variable {D : DC} {Wx : WX} {X : Cx} {e : Expr} {es : List Expr} {me : EM} {l : LM} {i : Nat} {x nm : Str} {id : String} {g : List W → List W → Option (W × List W)} {ppos apos cpos : Pos}
/-- own.extend([..]), the list new -/
def eExtF (i : Nat) (l : LM) : EM := fun m => match ownAt m.env i with
  | some (.ow _) => (l m).bind fun ws m => match ownAt m.env i with
    | some (.ow xs) => if szOk (xs.length + ws.length) = true then .ok .none { m with env := m.env.set i (some (.ow (xs ++ ws))) } else .bad
    | _ => .bad
  | _ => .bad
def eIxO (i : Nat) (a : EM) : EM := fun m => match ownAt m.env i with
  | some (.ow _) => (a m).bind fun k m => match ownAt m.env i with
    | some (.ow xs) => match k with
      | .int k => opt (atI xs k) m
      | _ => .bad
    | _ => .bad
  | _ => .bad
/-- own[k] = .. -/
def gSetI (i : Nat) (a : EM) : GM := fun w m => match ownAt m.env i with
  | some (.ow _) => match a m with
    | .ok (.int k) m => match ownAt m.env i with
      | some (.ow xs) => match ixN xs.length k with
        | some j => .ok () { m with env := m.env.set i (some (.ow (xs.set j w))) }
        | none => .bad
      | _ => .bad
    | _ => .bad
  | _ => .bad
end
end DL
namespace DL
open PySem PySem.Spec PyProof.Rows L2
/-- v of that standing, laid on H: Hf -/
def VP (K : PySem.W.Frag) (ca : CA) (H : Hp) (x : Sl) (v : V) (Hf : Hp) : Prop := match x with
  | .fz w => H = Hf ∧ Rp K ca H w v
  | .ow xs => ∃ p vs, v = .ref p ∧ H p = none ∧ RpAll K ca H xs vs ∧ Hf = upd H p (.lst vs)
  | .od kvs => ∃ p ps, v = .ref p ∧ H p = none ∧ RpKv K ca H kvs ps ∧ Hf = upd H p (.dK ps)
  | .pin _ => False
  | .on kvs => ∃ p xs, v = .ref p ∧ H p = none ∧ ((p == sysModules) = false ∧ kvs.length ≤ sizeLine ∧ (xs.map (·.1)).Nodup ∧ RpN K ca H kvs xs) ∧ Hf = upd H p (DX p xs)
theorem VQ.of {D : DC} {σ : L2.St} {ca : CA} {H : Hp} {Q : VK} {x : Sl} {ms1 : MS} (q : ∀ v ca' H' Hf, Ext ca H ca' H' → Rel D ca' σ H' ms1 → VP D.K ca' H' x v Hf → Q v Hf) : VQ D σ ca H Q x ms1 := by
  cases x with
  | fz w => exact fun v ca' H' x r p => q v ca' H' H' x r ⟨rfl, p⟩
  | pin w => exact trivial
  | ow xs => exact fun p vs ca' H' x r np rp => q _ ca' H' _ x r ⟨p, vs, rfl, np, rp, rfl⟩
  | od xs => exact fun p vs ca' H' x r np rp => q _ ca' H' _ x r ⟨p, vs, rfl, np, rp, rfl⟩
  | on xs => exact fun p vs ca' H' x r np h1 h2 h3 rp => q _ ca' H' _ x r ⟨p, vs, rfl, np, ⟨h1, h2, h3, rp⟩, rfl⟩
def VPs (K : PySem.W.Frag) (ca : CA) (H : Hp) : List Sl → List V → Hp → Prop
  | [], vs, Hf => vs = [] ∧ H = Hf
  | x :: xs, vs, Hf => ∃ v r Hm, vs = v :: r ∧ VP K ca H x v Hm ∧ VPs K ca Hm xs r Hf
def evVs : List VM → MS → R (List Sl)
  | [], m => .ok [] m
  | v :: vs, m => (v m).bind fun x m => (evVs vs m).bind fun xs m => .ok (x :: xs) m
def putE : List Nat → List Sl → List (Option Sl) → List (Option Sl)
  | i :: is, x :: xs, env => putE is xs (env.set i (some x))
  | _, _, env => env
theorem VPs.len {K : PySem.W.Frag} {ca : CA} : ∀ {xs : List Sl} {vs : List V} {H Hf : Hp}, VPs K ca H xs vs Hf → vs.length = xs.length
  | [], vs, H, Hf, h => by obtain ⟨rfl, rfl⟩ := h; rfl
  | x :: xs, vs, H, Hf, h => by
    obtain ⟨v, t, Hm, rfl, h1, h2⟩ := h
    rw [List.length_cons, List.length_cons, VPs.len h2]
/-- a, b, .. = x, y, .. -/
def sPar (is : List Nat) (l : List VM) : SM := fun m => (evVs l m).bind fun xs m => .ok .next { m with env := putE is xs m.env }
theorem VQ.imp {D : DC} {σ : L2.St} {ca : CA} {H : Hp} {Q Q' : VK} (f : ∀ v H, Q v H → Q' v H) : ∀ {x : Sl} {ms1 : MS}, VQ D σ ca H Q x ms1 → VQ D σ ca H Q' x ms1
  | .fz w, _, h => fun v ca' H' x r p => f _ _ (h v ca' H' x r p)
  | .pin _, _, h => trivial
  | .ow w, _, h => fun p vs ca' H' x r np rp => f _ _ (h p vs ca' H' x r np rp)
  | .od w, _, h => fun p vs ca' H' x r np rp => f _ _ (h p vs ca' H' x r np rp)
  | .on w, _, h => fun p vs ca' H' x r np h1 h2 h3 rp => f _ _ (h p vs ca' H' x r np h1 h2 h3 rp)
end DL
namespace DL
open PySem PySem.Spec PyProof.Rows L2
abbrev FM := List W → List Cell → R W
/-- the heap without tables that are not told of -/
def untab (T : List (Addr × Str)) (H : Hp) : Hp := fun b => match H b with
  | some (.tbl ps) => if (T.any fun p => p.1 == b) = true then some (.tbl ps) else none
  | o => o
section
variable {T : List (Addr × Str)} {H : Hp} {b : Addr} {o : HO}
theorem untab_of (h : untab T H b = some o) : H b = some o := by
  unfold untab at h
  split at h
  · rename_i ps e
    split at h
    · rw [e]; exact h
    · cases h
  · exact h
theorem untab_at (h : H b = some o) (hz : ∀ ps, o ≠ .tbl ps) : untab T H b = some o := by
  unfold untab
  split
  · rename_i ps e
    rw [h] at e
    exact absurd (Option.some.inj e) (hz ps)
  · exact h
theorem untab_tbl {ps : Array Value} (h : untab T H b = some (.tbl ps)) : ∃ q, (b, q) ∈ T := by
  unfold untab at h
  split at h
  · split at h
    · rename_i z
      obtain ⟨p, hp, e⟩ := List.any_eq_true.mp z
      have e : p.1 = b := by simpa using e
      exact ⟨p.2, by rw [← e]; exact hp⟩
    · cases h
  · rename_i z
    exact absurd h (z ps)
end
def cb (K : PySem.W.Frag) (H : Hp) (ca : CA) (sx : Bool × List (Addr × Str)) : DC := ⟨K, untab sx.2 H, ca, sx, fun _ => none⟩
def callP (K : PySem.W.Frag) (st : Bool × List (Addr × Str)) (F : FM) (n : Nat) : Sp := fun vs H Q E => vs.length = n ∧ ∃ ca cs ws, Rel (cb K H ca st) ca [] H ⟨[], cs⟩ ∧ RpAll K ca H ws vs ∧
  Po (cb K H ca st) (fun cls d _ H' => E cls d H') [] ca H (F ws cs) (fun w m => ∀ v ca' H', Ext ca H ca' H' → Rel (cb K H ca st) ca' [] H' ⟨[], m.cells⟩ → Rp K ca' H' w v → Q v H')
/-- the mirror of a def's body: n names in all -/
def runB (n : Nat) (body : SM) : FM := fun ws cs => match body ⟨ws.map (fun w => some (.fz w)) ++ List.replicate (n - ws.length) none, cs⟩ with
  | .ok (.ret w) m => .ok w ⟨[], m.cells⟩
  | .ok .next m => .ok .none ⟨[], m.cells⟩
  | .ok .brk _ => .bad
  | .ok .cont _ => .bad
  | .err c fs m => .err c fs ⟨[], m.cells⟩
  | .bad => .bad
section
variable {D : DC} {ca : CA} {σ : L2.St} {H : Hp} {ms : MS}
theorem Rel.drop (r : Rel D ca σ H ms) : Rel D ca [] H ⟨[], ms.cells⟩ :=
  ⟨r.len, r.cells, r.nd, r.pre, r.fr, r.new, rfl, fun i x e => by simp at e, fun i j v _ e => by simp [Sl.isOwn] at e, r.c0, fun i p e => by simp [Sl.isOwn] at e, r.tb, r.fb⟩
theorem Rel.start {cs : List Cell} {N : List Str} {ws : List W} {vs : List V} (r : Rel D ca [] H ⟨[], cs⟩) (h : RpAll D.K ca H ws vs) : Rel D ca (L2.start N vs) H ⟨ws.map (fun w => some (.fz w)) ++ List.replicate (N.length - ws.length) none, cs⟩ := by
  have hl := h.length
  have get : ∀ (i : Nat) (x : Sl), (ws.map (fun w => some (Sl.fz w)) ++ List.replicate (N.length - ws.length) none)[i]? = some (some x) → ∃ w, ws[i]? = some w ∧ x = .fz w := fun i x e => by
    by_cases hi : i < ws.length
    · rw [List.getElem?_append_left (by simpa using hi), List.getElem?_map] at e
      cases e2 : ws[i]? with
      | none => rw [e2] at e; cases e
      | some w => rw [e2] at e; cases e; exact ⟨w, rfl, rfl⟩
    · rw [List.getElem?_append_right (by simpa using hi), List.getElem?_replicate] at e
      split at e <;> cases e
  refine ⟨r.len, r.cells, r.nd, r.pre, r.fr, r.new, by simp [L2.start, hl], fun i x e => ?_, fun i j v _ e => ?_, r.c0, fun i p e => ?_, r.tb, r.fb⟩
  · obtain ⟨w, e1, rfl⟩ := get i x e
    obtain ⟨v, e2, p⟩ := h.get e1
    refine ⟨v, ?_, p⟩
    unfold L2.start
    have hi : i < vs.length := by
      rcases Nat.lt_or_ge i vs.length with h | h
      · exact h
      · rw [List.getElem?_eq_none h] at e2; cases e2
    rw [List.getElem?_append_left (by simpa using hi), List.getElem?_map, e2]
    rfl
  · obtain ⟨x, hx⟩ := isOwn_some e
    obtain ⟨w, _, rfl⟩ := get i x hx
    have e : Sl.isOwn (ws.map (fun w => some (Sl.fz w)) ++ List.replicate (N.length - ws.length) none)[i]? = true := e
    have hx : (ws.map (fun w => some (Sl.fz w)) ++ List.replicate (N.length - ws.length) none)[i]? = some (some (.fz w)) := hx
    rw [hx] at e
    cases e
  · obtain ⟨x, hx⟩ := isOwn_some e
    obtain ⟨w, _, rfl⟩ := get i x hx
    have e : Sl.isOwn (ws.map (fun w => some (Sl.fz w)) ++ List.replicate (N.length - ws.length) none)[i]? = true := e
    have hx : (ws.map (fun w => some (Sl.fz w)) ++ List.replicate (N.length - ws.length) none)[i]? = some (some (.fz w)) := hx
    rw [hx] at e
    cases e
/-- a cell is neither a tuple nor frozen -/
theorem CellAt.kind {K : PySem.W.Frag} : ∀ {c : Cell} {as : List Addr}, CellAt K ca H c as → ∀ b ∈ as, ∀ o, H b = some o → (∀ xs, o ≠ .tup xs) ∧ ∀ od u, o ≠ .frz od u
  | .draw _ _ _ _, _, ⟨s, c, l, e, h1, h2, h3⟩, b, hb, o, ho => by
    subst e
    have e : b = s ∨ b = c ∨ b = l := by simpa using hb
    rcases e with rfl | rfl | rfl
    · rw [h1] at ho; cases ho; exact ⟨(fun _ z => nomatch z), (fun _ _ z => nomatch z)⟩
    · rw [h2] at ho; cases ho; exact ⟨(fun _ z => nomatch z), (fun _ _ z => nomatch z)⟩
    · rw [h3] at ho; cases ho; exact ⟨(fun _ z => nomatch z), (fun _ _ z => nomatch z)⟩
  | .inst _ _, _, ⟨x, dx, fs', e, h1, h2, _⟩, b, hb, o, ho => by
    subst e
    have e : b = x ∨ b = dx := by simpa using hb
    rcases e with rfl | rfl
    · rw [h1] at ho; cases ho; exact ⟨(fun _ z => nomatch z), (fun _ _ z => nomatch z)⟩
    · rw [h2] at ho; cases ho; exact ⟨(fun _ z => nomatch z), (fun _ _ z => nomatch z)⟩
  | .lst _, _, ⟨p, vs, e, h1, _⟩, b, hb, o, ho => by
    subst e
    have e : b = p := by simpa using hb
    subst e
    rw [h1] at ho; cases ho; exact ⟨(fun _ z => nomatch z), (fun _ _ z => nomatch z)⟩
  | .dct _, _, ⟨p, vs, e, h1, _⟩, b, hb, o, ho => by
    subst e
    have e : b = p := by simpa using hb
    subst e
    rw [h1] at ho; cases ho; exact ⟨(fun _ z => nomatch z), (fun _ _ z => nomatch z)⟩
  | .exc _ _, _, ⟨x, dx, fs', e, h1, h2, _⟩, b, hb, o, ho => by
    subst e
    have e : b = x ∨ b = dx := by simpa using hb
    rcases e with rfl | rfl
    · rw [h1] at ho; cases ho; exact ⟨fun _ => exw_tup, fun _ _ => exw_frz⟩
    · rw [h2] at ho; cases ho; exact ⟨(fun _ z => nomatch z), (fun _ _ z => nomatch z)⟩
theorem CellAt.notab {K : PySem.W.Frag} : ∀ {c : Cell} {as : List Addr}, CellAt K ca H c as → ∀ b ∈ as, ∀ o, H b = some o → NoTab b o
  | .draw _ _ _ _, _, ⟨s, c, l, e, h1, h2, h3⟩, b, hb, o, ho => by
    subst e
    have e : b = s ∨ b = c ∨ b = l := by simpa using hb
    rcases e with rfl | rfl | rfl
    · rw [h1] at ho; cases ho; exact .dK
    · rw [h2] at ho; cases ho; exact .lst
    · rw [h3] at ho; cases ho; exact .lst
  | .inst _ _, _, ⟨x, dx, fs', e, h1, h2, _⟩, b, hb, o, ho => by
    subst e
    have e : b = x ∨ b = dx := by simpa using hb
    rcases e with rfl | rfl
    · rw [h1] at ho; cases ho; exact .ins
    · rw [h2] at ho; cases ho; exact .own
  | .lst _, _, ⟨p, vs, e, h1, _⟩, b, hb, o, ho => by
    subst e
    have e : b = p := by simpa using hb
    subst e
    rw [h1] at ho; cases ho; exact .lst
  | .dct _, _, ⟨p, vs, e, h1, _⟩, b, hb, o, ho => by
    subst e
    have e : b = p := by simpa using hb
    subst e
    rw [h1] at ho; cases ho; exact .dK
  | .exc _ _, _, ⟨x, dx, fs', e, h1, h2, _⟩, b, hb, o, ho => by
    subst e
    have e : b = x ∨ b = dx := by simpa using hb
    rcases e with rfl | rfl
    · rw [h1] at ho; cases ho; exact .exw
    · rw [h2] at ho; cases ho; exact .xd
theorem Rel.cell_kind (r : Rel D ca σ H ms) (st : D.st = true) {b : Addr} (h : b ∈ ca.flatten) {o : HO} (ho : H b = some o) : (∀ xs, o ≠ .tup xs) ∧ ∀ od u, o ≠ .frz od u := by
  obtain ⟨k, as, e, hb⟩ := mem_flat h
  have hl := r.len
  rw [if_pos st] at hl
  have hk : k < ca.length := by
    rcases Nat.lt_or_ge k ca.length with h | h
    · exact h
    · rw [List.getElem?_eq_none h] at e; cases e
  have hk2 : k < ms.cells.length := by omega
  exact (r.cells k ms.cells[k] as (by simp [hk2]) e).kind b hb o ho
/-- from the callee's side: the heap has only grown, but for the cells -/
theorem callee_ext {K : PySem.W.Frag} {st : Bool × List (Addr × Str)} {ca' : CA} {H' : Hp} {cs cs' : List Cell} {σ' : L2.St} {env' : List (Option Sl)} (r : Rel (cb K H ca st) ca [] H ⟨[], cs⟩) (r' : Rel (cb K H ca st) ca' σ' H' ⟨env', cs'⟩) : Ext ca H ca' H' := by
  refine ⟨⟨fun b xs e => ?_, fun b o u e => ?_⟩, r'.pre⟩
  · exact r'.fr b _ (untab_at e fun ps z => by cases z) (fun ps z => by cases z) fun s hm => (r.cell_kind s hm e).1 xs rfl
  · exact r'.fr b _ (untab_at e fun ps z => by cases z) (fun ps z => by cases z) fun s hm => (r.cell_kind s hm e).2 o u rfl
/-- the base of a call is laid -/
theorem Rel.base (r : Rel D ca σ H ms) {st : Bool} (hst : st = true → D.st = true) : Rel (cb D.K H ca (st, D.sx.2)) ca [] H ⟨[], if st = true then ms.cells else []⟩ := by
  have e0 : (ca.drop ca.length).flatten = [] := by simp
  refine ⟨?_, fun k c as e1 e2 => ?_, r.nd, List.prefix_refl _, fun b o e _ _ => untab_of e, fun b hb => ?_, rfl, fun i x e => by simp at e, fun i j v _ e => by simp [Sl.isOwn] at e, fun b hb => ?_, fun i p e => by simp [Sl.isOwn] at e, r.tb, fun b ps e => untab_tbl e⟩
  · cases st with
    | true =>
      have hl := r.len
      rw [if_pos (hst rfl)] at hl
      exact hl
    | false => exact ⟨rfl, rfl⟩
  · cases st with
    | true => exact r.cells k c as e1 e2
    | false => simp at e1
  · have hb : b ∈ (ca.drop ca.length).flatten := hb
    rw [e0] at hb
    cases hb
  · by_cases s : D.st = true
    · have hb : b ∈ ca.flatten := hb
      obtain ⟨o, e⟩ := r.cell_some s hb
      obtain ⟨k, as, hk, hm⟩ := mem_flat hb
      have hl := r.len
      rw [if_pos s] at hl
      have hkl : k < ca.length := by
        rcases Nat.lt_or_ge k ca.length with h | h
        · exact h
        · rw [List.getElem?_eq_none h] at hk; cases hk
      have hk2 : k < ms.cells.length := by omega
      have hz := ((r.cells k ms.cells[k] as (by simp [hk2]) hk).notab b hm o e).1
      exact ⟨o, untab_at e hz, hz⟩
    · have hl := r.len
      rw [if_neg s] at hl
      have hb : b ∈ ca.flatten := hb
      rw [hl.2] at hb
      obtain ⟨o, e, hz⟩ := r.c0 b hb
      exact ⟨o, untab_at (r.fr b o e hz fun z => absurd z s) hz, hz⟩
theorem Rel.h0_untab (r : Rel D ca σ H ms) {b : Addr} (h : untab D.sx.2 H b = none) : D.H0 b = none := by
  cases e : H b with
  | none => exact r.h0_none e
  | some o =>
    by_cases hz : ∃ ps, o = .tbl ps
    · obtain ⟨ps, rfl⟩ := hz
      cases e0 : D.H0 b with
      | none => rfl
      | some u =>
        exfalso
        by_cases hu : ∃ ps, u = .tbl ps
        · obtain ⟨p1, rfl⟩ := hu
          obtain ⟨q, hq⟩ := r.fb b p1 e0
          unfold untab at h
          rw [e] at h
          have : (D.sx.2.any fun p => p.1 == b) = true := List.any_eq_true.mpr ⟨_, hq, by simp⟩
          simp only [this, if_true] at h
          cases h
        · by_cases hm : D.st = true ∧ b ∈ D.ca0.flatten
          · obtain ⟨hst, hb⟩ := hm
            have hb := r.ca0_sub hb
            obtain ⟨k, as, hk, hm⟩ := mem_flat hb
            have hl := r.len
            rw [if_pos hst] at hl
            have hkl : k < ca.length := by
              rcases Nat.lt_or_ge k ca.length with h | h
              · exact h
              · rw [List.getElem?_eq_none h] at hk; cases hk
            have hk2 : k < ms.cells.length := by omega
            exact ((r.cells k ms.cells[k] as (by simp [hk2]) hk).notab b hm _ e).1 ps rfl
          · have := r.fr b u e0 (fun ps z => hu ⟨ps, z⟩) (fun st hL => hm ⟨st, hL⟩)
            rw [e] at this
            exact hu ⟨ps, (Option.some.inj this).symm⟩
    · rw [untab_at e (fun ps z => hz ⟨ps, z⟩)] at h
      cases h
/-- behind a call -/
theorem Rel.behind (r : Rel D ca σ H ms) {st : Bool} (hst : st = true → D.st = true) {ca' : CA} {H' : Hp} {σ' : L2.St} {m' : MS} (r' : Rel (cb D.K H ca (st, D.sx.2)) ca' σ' H' m') :
    Rel D ca' σ H' { ms with cells := if st = true then m'.cells else ms.cells } := by
  have x : Ext ca H ca' H' := callee_ext (r.base hst) r'
  have same : ∀ b o, H b = some o → (∀ ps, o ≠ .tbl ps) → b ∉ ca.flatten → H' b = some o := fun b o e hz hn => r'.fr b o (untab_at e hz) hz fun _ => hn
  refine ⟨?_, fun k c as e1 e2 => ?_, r'.nd, r.pre.trans r'.pre, fun b o e hz hn => ?_, fun b hb => ?_, r.slen, fun i y e => ?_, r.sep, r.c0, fun i p e1 e2 hm => ?_, r'.tb, r.fb⟩
  · cases st with
    | true =>
      have h1 := hst rfl
      have hl := r'.len
      rw [if_pos (show (cb D.K H ca (true, D.sx.2)).st = true from rfl)] at hl
      rw [if_pos h1]
      exact hl
    | false =>
      have hl := r'.len
      rw [if_neg (show ¬ (cb D.K H ca (false, D.sx.2)).st = true from Bool.false_ne_true)] at hl
      have e : ca' = ca := hl.2
      rw [e]
      exact r.len
  · cases st with
    | true => exact r'.cells k c as e1 e2
    | false =>
      have hl := r'.len
      rw [if_neg (show ¬ (cb D.K H ca (false, D.sx.2)).st = true from Bool.false_ne_true)] at hl
      have e : ca' = ca := hl.2
      subst e
      exact (r.cells k c as e1 e2).at_ x.kp fun b hb o h => r'.fr b o (untab_at h ((r.cells k c as e1 e2).notab b hb o h).1) ((r.cells k c as e1 e2).notab b hb o h).1 fun z => nomatch z
  · exact r'.fr b o (untab_at (r.fr b o e hz hn) hz) hz fun s hm => by
      rcases r.ca_split hm with h | h
      · exact hn (hst s) h
      · have := r.new b h
        rw [e] at this; cases this
  · obtain ⟨t, et⟩ := r'.pre
    have et : ca ++ t = ca' := et
    obtain ⟨t0, e0⟩ := r.pre
    have hl : D.ca0.length ≤ ca.length := by rw [← e0]; simp
    rw [← et, List.drop_append_of_le_length hl, List.flatten_append] at hb
    rcases List.mem_append.mp hb with h | h
    · exact r.new b h
    · refine r.h0_untab (r'.new b ?_)
      show b ∈ (ca'.drop ca.length).flatten
      rw [← et, List.drop_left]
      exact h
  · have e : ms.env[i]? = some (some y) := e
    obtain ⟨v, e1, q⟩ := r.slots i y e
    refine ⟨v, e1, ?_⟩
    cases y with
    | fz w => exact Rp.mono x _ _ q
    | pin w => exact q
    | ow xs =>
      obtain ⟨p, rfl, h0, vs, a, b⟩ := q
      exact ⟨p, rfl, h0, vs, same _ _ a nt_lst (r.oca i p (by rw [e]; rfl) e1), RpAll.mono x _ _ b⟩
    | od xs =>
      obtain ⟨p, rfl, h0, vs, a, b⟩ := q
      exact ⟨p, rfl, h0, vs, same _ _ a nt_dK (r.oca i p (by rw [e]; rfl) e1), RpKv.mono x _ _ b⟩
    | on xs =>
      obtain ⟨p, rfl, h0, s1, s2, vs, a, nn, b⟩ := q
      exact ⟨p, rfl, h0, s1, s2, vs, same _ _ a (NoTab.dx (p := p)).1 (r.oca i p (by rw [e]; rfl) e1), nn, RpN.mono x _ _ b⟩
  · obtain ⟨y, hy⟩ := isOwn_some e1
    have hy : ms.env[i]? = some (some y) := hy
    have e1 : Sl.isOwn ms.env[i]? = true := e1
    rw [hy] at e1
    obtain ⟨v, e3, q⟩ := r.slots i y hy
    rw [e2] at e3
    cases e3
    obtain ⟨p', ep, _, oa⟩ := q.own e1
    cases ep
    obtain ⟨o, ho, _⟩ := oa.mut
    have hn := r.oca i p (by rw [hy]; exact e1) e2
    obtain ⟨t, et⟩ := r'.pre
    have et : ca ++ t = ca' := et
    rw [← et, List.flatten_append] at hm
    rcases List.mem_append.mp hm with h | h
    · exact hn h
    · have := r'.new p (by show p ∈ (ca'.drop ca.length).flatten; rw [← et, List.drop_left]; exact h)
      have this : untab D.sx.2 H p = none := this
      rw [untab_at ho (oa.notab ho).1] at this; cases this
end
def eCall (st : Bool) (F : FM) (wd : List W) (l : LM) : EM := fun m => (l m).bind fun ws m => match F (ws ++ wd) (if st = true then m.cells else []) with
  | .ok w m' => .ok w { m with cells := if st = true then m'.cells else m.cells }
  | .err c fs m' => .err c fs { m with cells := if st = true then m'.cells else m.cells }
  | .bad => .bad
section
variable {D : DC} {Wx : WX} {X : Cx} {k n : Nat} {f : Addr} {fd : FuncData} {ps : List Str} {st : Bool} {F : FM} {dvs : List V} {ds : List Value} {wd : List W} {x : Str} {p pos : Pos} {e : Expr} {es : List Expr} {l : LM}
theorem call_of {σ : L2.St} {H : Hp} {Q : VK} (hK : D.K = X.K) (hst : st = true → D.st = true) (hn : ∀ ws m m', l m = .ok ws m' → ws.length + wd.length = n) (hw : ∀ ca H, RpAll X.K ca H wd dvs) (h : RdE D Wx (eCall st F wd l) σ H Q) :
    RdA D Wx l σ H fun vs H1 => callP X.K (st, D.sx.2) F n (vs ++ dvs) H1 Q (WE Wx σ) := by
  obtain ⟨ca, ms, r, h⟩ := h
  have h' : Po D Wx σ ca H ((l ms).bind fun ws m => if ws.length + wd.length = n then match F (ws ++ wd) (if st = true then m.cells else []) with
    | .ok w m' => .ok w { m with cells := if st = true then m'.cells else m.cells }
    | .err c fs m' => .err c fs { m with cells := if st = true then m'.cells else m.cells }
    | .bad => .bad else .bad) (EQ D σ ca H Q) := by
    unfold eCall at h
    cases e : l ms with
    | ok ws m =>
      rw [e] at h
      have hl := hn _ _ _ e
      show Po D Wx σ ca H (if ws.length + wd.length = n then _ else _) _
      rw [if_pos hl]
      exact h
    | err c fs m => rw [e] at h; exact h
    | bad => rw [e] at h; exact h
  refine RdA.bind r h' fun ws vs ms1 ca1 H1 x1 r1 p1 h1 => ?_
  by_cases hl : ws.length + wd.length = n
  · rw [if_pos hl] at h1
    have hdl := (hw ca1 H1).length
    have rb := r1.base hst
    rw [hK] at rb p1
    refine ⟨by rw [List.length_append, p1.length, hdl]; exact hl, ca1, _, ws ++ wd, rb, p1.append (hw ca1 H1), ?_⟩
    cases ef : F (ws ++ wd) (if st = true then ms1.cells else []) with
    | ok w m' =>
      rw [ef] at h1
      refine fun v ca' H' x' r' pv => ?_
      rw [← hK] at r' pv
      exact h1 v ca' H' (x1.trans x') (r1.behind (m' := ⟨[], m'.cells⟩) hst r') pv
    | err c fs m' =>
      rw [ef] at h1
      refine fun cls d σ' ca' H' x' r' er => ?_
      have r' : Rel (cb X.K H1 ca1 (st, D.sx.2)) ca' σ' H' m' := r'
      rw [← hK] at r'
      exact h1 cls d σ ca' H' (x1.trans x') (r1.behind hst r') (by rw [hK]; exact er)
    | bad => rw [ef] at h1; exact h1
  · rw [if_neg hl] at h1
    exact h1.elim
theorem de_call {T : List (Addr × Str)} (FO : FnOk X.prog X.w X.K X.mg X.base (L2.CX X.prog X.w) k f fd ps (callP X.K (st, T) F n)) (hr : Room k X.A) (hg : Gl X x) (hm : X.mg x = some (.ref f)) (hk : PySem.W.keepIn X.K (.ref f) = true) (hb : Binds X.K fd ps ds) (hd : Vals dvs ds) (tk : L2.Takes X Wx)
    (ha : DA D Wx X (e :: es) l) (hK : D.K = X.K) (hst : st = true → D.st = true) (hT : D.sx.2 = T) (hn : ∀ ws m m', l m = .ok ws m' → ws.length + wd.length = n) (hw : ∀ ca H, RpAll X.K ca H wd dvs)
    (hdb : (x == ("__debug__" : Str)) = false := by decide) (he : starEach (e :: es) X.env = (false, eval e X.env) :: starEach es X.env := by rfl) (hpl : (backTo pos (starEach es X.env)).any (·.1) = false := by rfl) :
    DE D Wx X (.Call (.Name x p) (e :: es) [] pos) (eCall st F wd l) :=
  PE.mono (pe_callSD (E := WE Wx) FO hr hg hm hk hb hd (fun σ => passAt tk σ) ha hdb he hpl) fun σ H Q h => hT ▸ call_of hK hst hn hw h
end
/-- how many values come -/
def LQt (n : Nat) (l : LM) : Prop := ∀ ws m m', l m = .ok ws m' → ws.length = n
theorem lq_nil : LQt 0 aNil := fun ws m m' h => by cases h; rfl
theorem lq_cons {n : Nat} {a : EM} {l : LM} (h : LQt n l) : LQt (n + 1) (aCons a l) := fun ws m m' e => by
  unfold aCons at e
  cases e1 : a m with
  | ok w m1 =>
    rw [e1] at e
    have e : ((l m1).bind fun xs m => R.ok (w :: xs) m) = .ok ws m' := e
    cases e2 : l m1 with
    | ok xs m2 => rw [e2] at e; cases e; rw [List.length_cons, h _ _ _ e2]
    | err c fs m2 => rw [e2] at e; cases e
    | bad => rw [e2] at e; cases e
  | err c fs m1 => rw [e1] at e; cases e
  | bad => rw [e1] at e; cases e
theorem body_of {K : PySem.W.Frag} {st : Bool × List (Addr × Str)} {N : List Str} {body : SM} {n : Nat} {vs : List V} {H : Hp} {Q : VK} {E : XK} (h : callP K st (runB N.length body) n vs H Q E) :
    ∃ ca, RdS (cb K H ca st) (fun cls d _ H' => E cls d H') body { nx := fun _ H' => Q .non H', rt := Q } (L2.start N vs) H := by
  obtain ⟨_, ca, cs, ws, r, p, h⟩ := h
  refine ⟨ca, RdS.of (r.start p) ?_⟩
  unfold runB at h
  cases e : body ⟨ws.map (fun w => some (.fz w)) ++ List.replicate (N.length - ws.length) none, cs⟩ with
  | ok f m =>
    rw [e] at h
    cases f with
    | ret w => exact fun v σ' ca' H' x' r' pv => h v ca' H' x' r'.drop pv
    | next => exact fun σ' ca' H' x' r' => h .non ca' H' x' r'.drop (by simp only [Rp])
    | brk => exact h.elim
    | cont => exact h.elim
  | err c fs m =>
    rw [e] at h
    exact fun cls d σ' ca' H' x' r' er => h cls d [] ca' H' x' r'.drop er
  | bad => rw [e] at h; exact h
section
variable {P : Program} {w : World} {K : PySem.W.Frag} {mg : Str → Option Value} {base : Heap} {x qual : Str} {params : Arguments} {body : List Stmt} {scope : Scope} {dvs : List V} {kws : List (Str × V)} {f : Addr} {fd : FuncData} {N ps : List Str} {k : Nat} {st : Bool × List (Addr × Str)} {mb : SM}
/-- the def keeps its promise -/
theorem fn_ok (Fd : FunD K x qual params body scope dvs kws f fd) (S : FnScope N ps scope)
    (hb : ∀ (cdv : Value) (A : Around) (outer : List Env) (s : Shared) (H : Hp) (E : XK), Room k (A.deeper (envOfC qual scope s.heap.objs.size f cdv)) → ∀ (Wx : WX), L2.Takes (cxOf (L2.CX P w) P w K mg base N qual scope f cdv A outer s H E) Wx → ∀ D : DC, D.K = K → (st.1 = true → D.st = true) → D.sx.2 = st.2 →
      DSs D Wx (cxOf (L2.CX P w) P w K mg base N qual scope f cdv A outer s H E) body mb) :
    FnOk P w K mg base (L2.CX P w) (k + 1) f fd ps (callP K st (runB N.length mb) ps.length) :=
  Fd.ok S (fun vs H Q E h => h.1) fun cdv A outer s H vs Q E hr h => by
    obtain ⟨ca, h2⟩ := body_of h
    exact ⟨_, hb cdv A outer s H E hr _ (takes_of rfl rfl rfl rfl) (cb K H ca st) rfl (fun h => h) rfl, h2⟩
end
end DL
namespace DL
open PySem PySem.Spec PyProof.Rows L2
def eChain (g g' : W → W → Option W) (a b c : EM) : EM := fun m => (a m).bind fun x m => (b m).bind fun y m => match g x y with
  | some (.bool true) => (c m).bind fun z m => opt (g' y z) m
  | some (.bool false) => .ok (.bool false) m
  | _ => .bad
theorem Rel.sub {D : DC} {ca : CA} {σ σ' : L2.St} {H : Hp} {env env' : List (Option Sl)} {cs : List Cell} (r : Rel D ca σ' H ⟨env', cs⟩) (hl : env.length = σ.length) (h : ∀ (i : Nat) (y : Sl), env[i]? = some (some y) → env'[i]? = some (some y) ∧ σ'[i]? = σ[i]?) : Rel D ca σ H ⟨env, cs⟩ := by
  have own : ∀ i : Nat, Sl.isOwn env[i]? = true → Sl.isOwn env'[i]? = true ∧ σ'[i]? = σ[i]? := fun i e => by
    obtain ⟨y, hy⟩ := isOwn_some e
    obtain ⟨h1, h2⟩ := h i y hy
    rw [hy] at e
    exact ⟨by rw [h1]; exact e, h2⟩
  refine ⟨r.len, r.cells, r.nd, r.pre, r.fr, r.new, hl, fun i y e => ?_, fun i j v hij e1 e2 e3 e4 => ?_, r.c0, fun i p e1 e2 => ?_, r.tb, r.fb⟩
  · obtain ⟨h1, h2⟩ := h i y e
    obtain ⟨v, e1, q⟩ := r.slots i y h1
    exact ⟨v, by rw [← h2]; exact e1, q⟩
  · obtain ⟨a1, b1⟩ := own i e1
    obtain ⟨a2, b2⟩ := own j e2
    exact r.sep i j v hij a1 a2 (by rw [b1]; exact e3) (by rw [b2]; exact e4)
  · obtain ⟨a1, b1⟩ := own i e1
    exact r.oca i p a1 (by rw [b1]; exact e2)
def compGo2 (g : GM) (t : TM) (it1 : LM) (g1 : GM) (t1 : TM) (el : EM) (vs1 : List Nat) (env0 : List (Option Sl)) : List W → List Cell → Option (List W × List Cell)
  | [], cs => some ([], cs)
  | x :: xs, cs => match g x ⟨env0, cs⟩ with
    | .ok _ m2 => match t m2 with
      | .ok true m3 => match it1 m3 with
        | .ok ys m4 => match compGo g1 t1 el (wipeE m4.env vs1) ys m4.cells with
          | some (zs, cs1) => match compGo2 g t it1 g1 t1 el vs1 env0 xs cs1 with
            | some (rs, cs') => some (zs ++ rs, cs')
            | none => none
          | none => none
        | _ => none
      | .ok false m3 => compGo2 g t it1 g1 t1 el vs1 env0 xs m3.cells
      | _ => none
    | _ => none
def fComp2 (it : LM) (g : GM) (t : TM) (it1 : LM) (g1 : GM) (t1 : TM) (el : EM) (vs1 own : List Nat) : LM := fun m => (it m).bind fun xs m => if ownFree m.env own = false then .bad else match compGo2 g t it1 g1 t1 el vs1 (wipeE m.env own) xs m.cells with
  | some (ys, cs) => if szOk ys.length = true then .ok ys { m with cells := cs } else .bad
  | none => .bad
end DL
namespace DL
open PySem PySem.Spec PyProof.Rows L2
def toKey : W → Option Key
  | .int i => some (.inl i)
  | .str s => some (.inr s)
  | _ => none
theorem toKey_kW {w : W} {k : Key} (h : toKey w = some k) : w = kW k := by
  cases w <;> cases h <;> rfl
/-- the same key -/
def keq : W → W → Bool
  | .int i, .int j => decide (i = j)
  | .str s, .str t => decide (s = t)
  | _, _ => false
theorem keq_kW (a b : Key) : keq (kW a) (kW b) = decide (a = b) := by
  cases a <;> cases b <;> simp [keq, kW]
def lookW : List (W × W) → W → Option W
  | [], _ => none
  | (k, x) :: r, q => if keq k q = true then some x else lookW r q
def replW : List (W × W) → W → W → List (W × W)
  | [], _, _ => []
  | (k, x) :: r, q, y => if keq k q = true then (k, y) :: replW r q y else (k, x) :: replW r q y
def putW (kvs : List (W × W)) (k v : W) : List (W × W) := match lookW kvs k with
  | some _ => replW kvs k v
  | none => kvs ++ [(k, v)]
def mergeW (kvs : List (W × W)) : List (W × W) → List (W × W)
  | [] => kvs
  | (k, v) :: r => mergeW (putW kvs k v) r
theorem Rp.kv {K : PySem.W.Frag} {ca : CA} {H : Hp} {w : W} {v : V} {k : Key} (h : Rp K ca H w v) (e : toKey w = some k) : v = kV k := by
  cases w with
  | int i => cases e; exact h.int
  | str i => cases e; exact h.str
  | _ => cases e
theorem rp_kV {K : PySem.W.Frag} {ca : CA} {H : Hp} (k : Key) : Rp K ca H (kW k) (kV k) := by
  cases k <;> simp only [Rp, kW] <;> rfl
section
variable {K : PySem.W.Frag} {ca : CA} {H : Hp}
theorem RpKv.look : ∀ {kvs : List (W × W)} {ps : List (Key × V)} (k : Key), RpKv K ca H kvs ps → (lookW kvs (kW k) = none ∧ valV ps k = none) ∨ ∃ x v, lookW kvs (kW k) = some x ∧ valV ps k = some v ∧ Rp K ca H x v
  | [], ps, k, h => by
    simp only [RpKv] at h
    subst h
    exact .inl ⟨rfl, rfl⟩
  | (q, x) :: r, ps, k, h => by
    simp only [RpKv] at h
    obtain ⟨q', v, t, rfl, rfl, h1, h2⟩ := h
    unfold lookW
    rw [keq_kW]
    by_cases e : q' = k
    · rw [if_pos (by simpa using e), valV_pos e]
      exact .inr ⟨x, v, rfl, rfl, h1⟩
    · rw [if_neg (by simpa using e), valV_neg e]
      exact RpKv.look k h2
theorem RpKv.length : ∀ {kvs : List (W × W)} {ps : List (Key × V)}, RpKv K ca H kvs ps → ps.length = kvs.length
  | [], ps, h => by simp only [RpKv] at h; subst h; rfl
  | (q, x) :: r, ps, h => by
    simp only [RpKv] at h
    obtain ⟨q', v, t, rfl, rfl, h1, h2⟩ := h
    rw [List.length_cons, List.length_cons, RpKv.length h2]
end
def kNew : KM := fun m => .ok [] m
section
variable {D : DC} {Wx : WX} {X : Cx} {pos : Pos}
theorem dd_new : DD D Wx X (.Dict [] [] pos) kNew := PE.mono pe_dnewK fun σ H Q ⟨ca, ms, r, h⟩ => fun p np => h p [] ca H (.refl _ _) r np (by simp only [RpKv])
theorem pe_freezeK {e : Expr} {t : TE} (h : PE X e t) : PE X e (fun σ H Q => t σ H fun v H' => ∃ p vs, v = .ref p ∧ H' p = some (.dK vs) ∧ ∀ o, Q v (upd H' p (.frz o (.dK vs)))) :=
  ⟨fun pins s σ H Q I hw => thn (h.run pins s σ H _ I hw) fun u s1 ⟨v, H', I1, rv, p, vs, ev, hp, q⟩ => by
    obtain ⟨od, I2⟩ := I1.lock hp trivial
    exact ⟨v, _, I2, rv, q od⟩⟩
def eFzD (l : KM) : EM := fun m => (l m).bind fun ws m => .ok (.dict ws) m
theorem de_fzD {e : Expr} {mr : KM} (h : DD D Wx X e mr) : DE D Wx X e (eFzD mr) :=
  PE.mono (pe_freezeK h) fun σ H Q ⟨ca, ms, r, h⟩ => by
    refine ⟨ca, ms, r, ?_⟩
    unfold eFzD at h
    cases e : mr ms with
    | ok ws ms1 =>
      rw [e] at h
      refine fun p vs ca' H' x1 r1 np p1 => ⟨p, vs, rfl, upd_same, fun o => ?_⟩
      rw [upd_upd]
      have g : Same H' (upd H' p (.frz o (.dK vs))) := Same.upd_new np
      exact h _ ca' _ (x1.trans (.of_same g)) (r1.grow g) (by simp only [Rp]; exact .inr (.inl ⟨p, vs, rfl, ⟨o, upd_same⟩, RpKv.mono (.of_same g) _ _ p1⟩))
    | err c fs m => rw [e] at h; exact h
    | bad => rw [e] at h; exact h
end
def kcompGo (g : GM) (t : TM) (ek el : EM) (env0 : List (Option Sl)) : List W → List (W × W) → List Cell → Option (List (W × W) × List Cell)
  | [], acc, cs => some (acc, cs)
  | x :: xs, acc, cs => match g x ⟨env0, cs⟩ with
    | .ok _ m2 => match t m2 with
      | .ok true m3 => match ek m3 with
        | .ok k m4 => match el m4 with
          | .ok y m5 => if (toKey k).isSome && szOk (acc.length + 1) then kcompGo g t ek el env0 xs (putW acc k y) m5.cells else none
          | _ => none
        | _ => none
      | .ok false m3 => kcompGo g t ek el env0 xs acc m3.cells
      | _ => none
    | _ => none
def kComp (it : LM) (g : GM) (t : TM) (ek el : EM) (own : List Nat) : KM := fun m => (it m).bind fun xs m => if ownFree m.env own = false then .bad else match kcompGo g t ek el (wipeE m.env own) xs [] m.cells with
  | some (ys, cs) => .ok ys { m with cells := cs }
  | none => .bad
theorem Mut_dK {vs : List (Key × V)} : Mut (some (.dK vs)) := trivial
end DL
namespace DL
open PySem PySem.Spec PyProof.Rows L2
section
open PySem.W
def cmpOk (a b : W) : Bool := alike a b && !isNone a && shallow a b && a.canLay0 && b.canLay0
def gGt : W → W → Option W
  | .int a, .int b => some (.bool (decide (b < a)))
  | a, b => if cmpOk a b = true then some (.bool (dataLt b a)) else none
def gLe : W → W → Option W
  | .int a, .int b => some (.bool (decide (a ≤ b)))
  | a, b => if cmpOk a b = true then some (.bool (!dataLt b a)) else none
def gGe : W → W → Option W
  | .int a, .int b => some (.bool (decide (b ≤ a)))
  | a, b => if cmpOk a b = true then some (.bool (!dataLt a b)) else none
variable {D : DC} {X : Cx}
theorem cmpOk_reads (hK : D.K = X.K) {pins : List (Addr × Obj)} {s : Shared} {σ : L2.St} {ca : CA} {H : Hp} {x y : V} {u1 u2 : Value} {wx wy : W} (I : Inv X pins σ H s) (r1 : RelV x u1) (r2 : RelV y u2) (p1 : Rp D.K ca H wx x) (p2 : Rp D.K ca H wy y) (h : cmpOk wx wy = true) :
    ∃ as bs, Reads s.heap u1 wx as ∧ Reads s.heap u2 wy bs ∧ alike wx wy = true ∧ wx ≠ .none ∧ min wx.depth wy.depth ≤ 60 := by
  unfold cmpOk at h
  simp only [Bool.and_eq_true] at h
  obtain ⟨⟨⟨⟨ha, hn⟩, hs⟩, c1⟩, c2⟩ := h
  rw [hK] at p1 p2
  obtain ⟨as, q1⟩ := Dp.reads I wx x u1 (Rp.dp wx x c1 p1) r1
  obtain ⟨bs, q2⟩ := Dp.reads I wy y u2 (Rp.dp wy y c2 p2) r2
  exact ⟨as, bs, q1, q2, ha, fun z => by subst z; simp [isNone] at hn, shallow_min hs⟩
theorem dop_gt (hK : D.K = X.K) (hu : X.A.units + 64 < cLine) : DOp D X (compareOp .Gt) gGt := fun pins s σ ca H x y u1 u2 wx wy w Q I r1 r2 p1 p2 e q => by
  have gen : (if cmpOk wx wy = true then some (PyData.bool (dataLt wy wx)) else none) = some w → wpAny (model X.prog X.w) X.A (compareOp .Gt u1 u2) (EP X pins σ Q) X.xe s := fun e => by
    by_cases hc : cmpOk wx wy = true
    · rw [if_pos hc] at e
      cases e
      obtain ⟨as, bs, q1, q2, ha, hn, hm⟩ := cmpOk_reads hK I r1 r2 p1 p2 hc
      exact gt_data q1 q2 ha hn (by omega) ⟨.bl _, H, I, rfl, q _ H (fun _ _ h => h) rp_bool⟩
    · rw [if_neg hc] at e; cases e
  cases wx with
  | int i => cases wy with
    | int j =>
      have e : some (PyData.bool (decide (j < i))) = some w := e
      cases e
      exact op_gt pins s σ H x y u1 u2 Q I r1 r2 ⟨i, j, p1.int, p2.int, q _ H (fun _ _ h => h) rp_bool⟩
    | _ => exact gen (by simpa only [gGt] using e)
  | _ => exact gen (by simpa only [gGt] using e)
theorem dop_ge (hK : D.K = X.K) (hu : X.A.units + 64 < cLine) : DOp D X (compareOp .GtE) gGe := fun pins s σ ca H x y u1 u2 wx wy w Q I r1 r2 p1 p2 e q => by
  have gen : (if cmpOk wx wy = true then some (PyData.bool (!dataLt wx wy)) else none) = some w → wpAny (model X.prog X.w) X.A (compareOp .GtE u1 u2) (EP X pins σ Q) X.xe s := fun e => by
    by_cases hc : cmpOk wx wy = true
    · rw [if_pos hc] at e
      cases e
      obtain ⟨as, bs, q1, q2, ha, hn, hm⟩ := cmpOk_reads hK I r1 r2 p1 p2 hc
      exact ge_data q1 q2 ha hn (by omega) ⟨.bl _, H, I, rfl, q _ H (fun _ _ h => h) rp_bool⟩
    · rw [if_neg hc] at e; cases e
  cases wx with
  | int i => cases wy with
    | int j =>
      have e : some (PyData.bool (decide (j ≤ i))) = some w := e
      cases e
      exact op_ge pins s σ H x y u1 u2 Q I r1 r2 ⟨i, j, p1.int, p2.int, q _ H (fun _ _ h => h) rp_bool⟩
    | _ => exact gen (by simpa only [gGe] using e)
  | _ => exact gen (by simpa only [gGe] using e)
def alikeL (xs : List W) : Bool := xs.all fun x => (xs.all fun y => alike x y) && !isNone x && x.canLay0
def mmOk (xs : List W) : Bool := alikeL xs && Nat.ble (PyData.depthAll xs) 60
theorem alikeL_ok {xs : List W} (h : alikeL xs = true) : AlikeAll xs ∧ PyData.canLayAll0 xs = true := by
  unfold alikeL at h
  rw [List.all_eq_true] at h
  refine ⟨⟨fun x hx y hy => ?_, fun x hx z => ?_⟩, ?_⟩
  · have := h x hx
    simp only [Bool.and_eq_true, List.all_eq_true] at this
    exact this.1.1 y hy
  · have := h x hx
    subst z
    simp [isNone] at this
  · have all : ∀ l : List W, (∀ x ∈ l, x.canLay0 = true) → PyData.canLayAll0 l = true := fun l => by
      induction l with
      | nil => intro _; rfl
      | cons y ys ih =>
        intro hh
        rw [PyData.canLayAll0, hh y (by simp), ih fun x hx => hh x (by simp [hx])]
        rfl
    exact all xs fun x hx => by
      have := h x hx
      simp only [Bool.and_eq_true] at this
      exact this.2
def gMinL : List W → Option W
  | [.list (x :: xs)] => if mmOk (x :: xs) = true then some (minD x xs) else none
  | [.tuple (x :: xs)] => if mmOk (x :: xs) = true then some (minD x xs) else none
  | _ => none
theorem DpAll.readsL {pins : List (Addr × Obj)} {σ : L2.St} {H : Hp} {s : Shared} (I : Inv X pins σ H s) : ∀ {ds : List W} {vs : List V} {us : List Value}, DpAll X.K H vs ds → Vals vs us → ∃ as, ReadsAll s.heap us ds as
  | _, _, _, .nil, .nil => ⟨[], .nil⟩
  | _, _, _, .cons h t, .cons r rs => by
    obtain ⟨as, q⟩ := Dp.reads I _ _ _ h r
    obtain ⟨bs, q2⟩ := DpAll.readsL I t rs
    exact ⟨_, .cons q q2⟩
/-- an item that reads as d stands for d -/
theorem item_back {pins : List (Addr × Obj)} {σ : L2.St} {H : Hp} {s : Shared} {ca : CA} {xs : List W} {vs : List V} {us : List Value} {i : Nat} {v : Value} {d : W} {h' : Heap} {bs : List Addr} (I : Inv X pins σ H s) (c : PyData.canLayAll0 xs = true) (ra : RpAll X.K ca H xs vs) (rv : Vals vs us) (hv : us[i]? = some v)
    (hk : ∀ b o, s.heap.get? b = some o → h'.get? b = some o) (hr : Reads h' v d bs) : ∃ x, RelV x v ∧ Rp X.K ca H d x := by
  have hi : i < us.length := by
    rcases Nat.lt_or_ge i us.length with h | h
    · exact h
    · rw [List.getElem?_eq_none h] at hv; cases hv
  obtain ⟨x, hx⟩ : ∃ x, vs[i]? = some x := ⟨_, List.getElem?_eq_getElem (by rw [rv.length]; exact hi)⟩
  obtain ⟨v', hv', rx⟩ := rv.get hx
  rw [hv] at hv'
  cases hv'
  obtain ⟨w, hw, pw⟩ := ra.get' hx
  have cw : w.canLay0 = true := by
    have all : ∀ l : List W, PyData.canLayAll0 l = true → ∀ x ∈ l, x.canLay0 = true := fun l => by
      induction l with
      | nil => intro _ x hx; cases hx
      | cons y ys ih =>
        intro hh x hx
        rw [PyData.canLayAll0, Bool.and_eq_true] at hh
        rcases List.mem_cons.mp hx with e | e
        · rw [e]; exact hh.1
        · exact ih hh.2 x e
    exact all xs c w (List.mem_of_getElem? hw)
  obtain ⟨as, q⟩ := Dp.reads I w x v (Rp.dp w x cw pw) rx
  have e := (reads_det (h := h') (h' := h') (fun _ _ e _ => e) (PyProof.Rows.Reads.keeps hk q) hr).1
  rw [e]
  exact ⟨x, rx, pw⟩
theorem tup_is {h : Heap} {a : Addr} {its : List Value} (x : IsTup h a its.toArray) : h.IsTuple a its.toArray := by
  obtain ⟨o, e, c, n, d⟩ := x
  exact ⟨o, e, c, n, d⟩
theorem dc_minL (hK : D.K = X.K) (hc : X.calm = true) (hu : X.A.units + 64 < cLine) : DCall D X (.builtin "min") gMinL := fun pins s σ ca H xs us ws w Q I r1 p1 e q => by
  unfold gMinL at e
  split at e
  · rename_i x t
    by_cases hz : mmOk (x :: t) = true
    · rw [if_pos hz] at e
      cases e
      unfold mmOk at hz
      rw [Bool.and_eq_true] at hz
      obtain ⟨al, cl⟩ := alikeL_ok hz.1
      have hd := Nat.le_of_ble_eq_true hz.2
      rw [hK] at p1
      obtain ⟨v, rfl, h1⟩ := p1.inv1
      obtain ⟨a, vs, rfl, f, ra⟩ := h1.lst
      obtain ⟨u, rfl, ru⟩ := r1.one
      cases ru
      obtain ⟨its, rv, hl, _⟩ := I.list f.sq
      obtain ⟨as, rr⟩ := DpAll.readsL I (RpAll.dp _ _ cl ra) rv
      refine min_list_data (I.ok.hd hc) hl.isList (by simpa using rr) al (by omega) fun i v h' tk bs hv hr hk => ?_
      obtain ⟨x', rx, px⟩ := item_back (us := its) I cl ra rv (by simpa using hv) hk hr
      exact ⟨x', H, I.kept hk, rx, q x' H (fun _ _ h => h) (by rw [hK]; exact px)⟩
    · rw [if_neg hz] at e; cases e
  · rename_i x t
    by_cases hz : mmOk (x :: t) = true
    · rw [if_pos hz] at e
      cases e
      unfold mmOk at hz
      rw [Bool.and_eq_true] at hz
      obtain ⟨al, cl⟩ := alikeL_ok hz.1
      have hd := Nat.le_of_ble_eq_true hz.2
      rw [hK] at p1
      obtain ⟨v, rfl, h1⟩ := p1.inv1
      obtain ⟨a, vs, rfl, f, ra⟩ := h1.tup
      obtain ⟨u, rfl, ru⟩ := r1.one
      cases ru
      obtain ⟨its, rv, hl, _⟩ := I.tuple f.sq
      obtain ⟨as, rr⟩ := DpAll.readsL I (RpAll.dp _ _ cl ra) rv
      refine min_tuple_data (I.ok.hd hc) (tup_is hl) (by simpa using rr) al (by omega) fun i v h' tk bs hv hr hk => ?_
      obtain ⟨x', rx, px⟩ := item_back (us := its) I cl ra rv (by simpa using hv) hk hr
      exact ⟨x', H, I.kept hk, rx, q x' H (fun _ _ h => h) (by rw [hK]; exact px)⟩
    · rw [if_neg hz] at e; cases e
  · cases e
end
def insI (x : Int) : List Int → List Int
  | [] => [x]
  | y :: ys => if x ≤ y then x :: y :: ys else y :: insI x ys
def isortI : List Int → List Int
  | [] => []
  | x :: xs => insI x (isortI xs)
theorem insI_perm (x : Int) : ∀ ys, (insI x ys).Perm (x :: ys)
  | [] => List.Perm.refl _
  | y :: ys => by
    unfold insI
    split
    · exact List.Perm.refl _
    · exact (List.Perm.cons y (insI_perm x ys)).trans (List.Perm.swap x y ys)
theorem isortI_perm : ∀ xs, (isortI xs).Perm xs
  | [] => List.Perm.refl _
  | x :: xs => (insI_perm x _).trans (List.Perm.cons x (isortI_perm xs))
def keysW (kvs : List (W × W)) : List W := kvs.map (·.1)
def hndB (kvs : List (W × W)) : Bool := kvs.all fun kv => (toKey kv.1).isSome
def gKeys : List W → Option (List W)
  | [.dict kvs] => if hndB kvs = true then some (keysW kvs) else none
  | _ => none
section
variable {D : DC} {Wx : WX} {X : Cx}
/-- a dict that is one -/
theorem Rp.fzd {K : PySem.W.Frag} {ca : CA} {H : Hp} {kvs : List (W × W)} {v : V} (h : Rp K ca H (.dict kvs) v) (hn : hndB kvs = true) : ∃ a ps, v = .ref a ∧ FzD K H a ps ∧ RpKv K ca H kvs ps := by
  simp only [Rp] at h
  rcases h with ⟨k, a, as, rfl, _, _⟩ | h | h
  · simp [hndB, toKey] at hn
  · exact h
  · obtain ⟨m, r, a, xs, rfl, _⟩ := h.inv
    simp [hndB, toKey] at hn
theorem FzD.rd {K : PySem.W.Frag} {H : Hp} {a : Addr} {ps : List (Key × V)} (h : FzD K H a ps) : Rd H a (.dK ps) := let ⟨o, h⟩ := h; .inr ⟨o, h⟩
theorem RpKv.keys {K : PySem.W.Frag} {ca : CA} {H : Hp} : ∀ {kvs : List (W × W)} {ps : List (Key × V)}, RpKv K ca H kvs ps → RpAll K ca H (keysW kvs) (ps.map fun kv => kV kv.1)
  | [], ps, h => by simp only [RpKv] at h; subst h; simp [keysW, RpAll]
  | (k, x) :: r, ps, h => by
    simp only [RpKv] at h
    obtain ⟨q', v, t, rfl, rfl, h1, h2⟩ := h
    simp only [keysW, List.map_cons, RpAll]
    exact ⟨_, _, rfl, rp_kV q', RpKv.keys h2⟩
theorem dc_keys (hc : X.calm = true) : DCallF D X (.type "list") gKeys := dcallF_of (call_listD hc) fun ca H xs ws w Q p1 e q => by
  unfold gKeys at e
  split at e
  · rename_i kvs
    by_cases hn : hndB kvs = true
    · rw [if_pos hn] at e
      cases e
      obtain ⟨v, rfl, h1⟩ := p1.inv1
      obtain ⟨a, ps, rfl, f, r⟩ := h1.fzd hn
      exact ⟨a, ps, rfl, f.rd, fun p np => q p _ np r.keys⟩
    · rw [if_neg hn] at e; cases e
  · cases e
def dixW : W → W → Option W
  | .dict kvs, k => if (hndB kvs && (toKey k).isSome) = true then lookW kvs k else none
  | _, _ => none
theorem dixW_inv {a b w : W} (h : dixW a b = some w) : ∃ kvs, a = .dict kvs ∧ hndB kvs = true ∧ (toKey b).isSome = true ∧ lookW kvs b = some w := by
  unfold dixW at h
  split at h
  · rename_i kvs
    by_cases hn : (hndB kvs && (toKey b).isSome) = true
    · rw [if_pos hn] at h
      rw [Bool.and_eq_true] at hn
      exact ⟨kvs, rfl, hn.1, hn.2, h⟩
    · rw [if_neg hn] at h; cases h
  · cases h
theorem RpKv.dget {K : PySem.W.Frag} {ca : CA} {H : Hp} {kvs : List (W × W)} {a : Addr} {ps : List (Key × V)} {wk : W} {y : V} (f : FzD K H a ps) (r : RpKv K ca H kvs ps) (py : Rp K ca H wk y) (hk : (toKey wk).isSome = true) :
    ∃ o, DGet H a y o ∧ ((lookW kvs wk = none ∧ o = none) ∨ ∃ x v, lookW kvs wk = some x ∧ o = some v ∧ Rp K ca H x v) := by
  obtain ⟨k, hk⟩ := Option.isSome_iff_exists.mp hk
  have e1 := toKey_kW hk
  subst e1
  have e2 := py.kv hk
  refine ⟨valV ps k, .inl ⟨ps, k, f.rd, e2, rfl⟩, ?_⟩
  rcases r.look k with ⟨h1, h2⟩ | ⟨x, v, h1, h2, h3⟩
  · exact .inl ⟨h1, h2⟩
  · exact .inr ⟨x, v, h1, h2, h3⟩
theorem ix_dict (hu : X.A.units + 1 < cLine) : IxR X (fun x y H Q => ∃ a v, x = .ref a ∧ DGet H a y (some v) ∧ Q v H) := by
  intro value slice pins s σ H x y v u Q I rx ry h hs
  obtain ⟨a, w, rfl, g, q⟩ := h
  cases rx
  exact tail_any (dict_typeIs I g) slot_dict_getitem.lookup (d_getItem hu I g ry fun w' s' I' r' => ⟨w, H, I', r', q⟩) hs
def ixW (a b : W) : Option W := (atW a b).or (dixW a b)
theorem de_ixD {a b : Expr} {ma mb : EM} {pos : Pos} (hK : D.K = X.K) (hu : X.A.units + 1 < cLine) (ha : DE D Wx X a ma) (hb : DE D Wx X b mb) (hs : PlainIx b) : DE D Wx X (.Subscript a b pos) (eBin ixW ma mb) :=
  PE.mono (pe_ix (ix_seq.or (ix_dict hu)) ha hb hs) fun σ H Q h => by
    obtain ⟨ca, ms, r, h⟩ := h
    refine RdE.bind r h fun wx x ms1 ca1 H1 x1 r1 p1 h1 => RdE.bind r1 (h1.ext x1) fun wy y ms2 ca2 H2 x2 r2 p2 h2 => ?_
    obtain ⟨w, e, q⟩ := Po.opt h2
    have p1 := Rp.mono x2 _ _ p1
    have fin : ∀ v, Rp D.K ca2 H2 w v → Q v H2 := fun v pv => q v ca2 H2 (x1.trans x2) r2 pv
    unfold ixW at e
    cases e1 : atW wx wy with
    | none =>
      rw [e1] at e
      obtain ⟨kvs, rfl, hn1, hn2, hl⟩ := dixW_inv (show dixW wx wy = some w from e)
      obtain ⟨a, ps, rfl, f, rk⟩ := p1.fzd hn1
      obtain ⟨o, g, h⟩ := rk.dget f p2 hn2
      rcases h with ⟨h1, _⟩ | ⟨x, v, h1, rfl, h3⟩
      · rw [hl] at h1; cases h1
      · rw [hl] at h1
        cases h1
        exact .inr ⟨a, v, rfl, g, fin v h3⟩
    | some w' =>
      rw [e1] at e
      cases e
      cases wy with
      | int i =>
        obtain rfl := p2.int
        cases wx with
        | tuple xs =>
          obtain ⟨p, vs, rfl, f, ra⟩ := p1.tup
          obtain ⟨v, e3, e4⟩ := ra.atI e1
          exact .inl (.inr (.inl ⟨p, vs, i, v, rfl, rfl, by rw [← hK]; exact f.sq, e3, fin v e4⟩))
        | list xs =>
          obtain ⟨p, vs, rfl, f, ra⟩ := p1.lst
          obtain ⟨v, e3, e4⟩ := ra.atI e1
          exact .inl (.inl ⟨p, vs, i, v, rfl, rfl, by rw [← hK]; exact f.sq, e3, fin v e4⟩)
        | str z =>
          have e' : (if szOk z.length = true then (L2.atI z.cps.toList i).map fun c => PyData.str ⟨#[c]⟩ else none) = some w := e1
          by_cases hz : szOk z.length = true
          · rw [if_pos hz] at e'
            obtain ⟨c, e3, rfl⟩ := Option.map_eq_some_iff.mp e'
            obtain rfl := p1.str
            exact .inl (.inr (.inr ⟨z, i, c, rfl, rfl, szOk_le hz, e3, fin _ rp_str⟩))
          · rw [if_neg hz] at e'; cases e'
        | _ => cases e1
      | _ => cases wx <;> cases e1
def inD : W → W → Option Bool
  | k, .dict kvs => if (hndB kvs && (toKey k).isSome) = true then some (lookW kvs k).isSome else none
  | _, _ => none
def gInA (a b : W) : Option W := (gIn a b).or ((inD a b).map .bool)
def gNotInA (a b : W) : Option W := (gNotIn a b).or ((inD a b).map fun k => .bool (!k))
end
end DL
namespace DL
open PySem PySem.Spec PyProof.Rows L2
section
variable {D : DC} {Wx : WX} {X : Cx} {e e2 o : Expr} {me mf mo : EM} {i : Nat} {x : Str} {ppos apos cpos pos : Pos} {l : KM}
def gSetD (i : Nat) (a : EM) : GM := fun w m => match ownAt m.env i with
  | some (.od _) => match a m with
    | .ok k m => match ownAt m.env i with
      | some (.od kvs) => if ((toKey k).isSome && szOk (kvs.length + 1)) = true then .ok () { m with env := m.env.set i (some (.od (putW kvs k w))) } else .bad
      | _ => .bad
    | _ => .bad
  | _ => .bad
def eUpdF (i : Nat) (l : KM) : EM := fun m => match ownAt m.env i with
  | some (.od _) => (l m).bind fun ws m => match ownAt m.env i with
    | some (.od kvs) => if szOk (kvs.length + ws.length) = true then .ok .none { m with env := m.env.set i (some (.od (mergeW kvs ws))) } else .bad
    | _ => .bad
  | _ => .bad
def eGet1 (a b : EM) : EM := fun m => (a m).bind fun d m => match d with
  | .dict kvs => if hndB kvs = true then (b m).bind fun k m => if (toKey k).isSome = true then .ok ((lookW kvs k).getD .none) m else .bad else .bad
  | _ => .bad
def eGet2 (a b c : EM) : EM := fun m => (a m).bind fun d m => match d with
  | .dict kvs => if hndB kvs = true then (b m).bind fun k m => (c m).bind fun z m => if (toKey k).isSome = true then .ok ((lookW kvs k).getD z) m else .bad else .bad
  | _ => .bad
def KTab (K : PySem.W.Frag) (w : World) (a : Addr) (tab : List (Str × W)) : Prop := (a == sysModules) = false ∧ (∃ es n, K.lookup a = some ⟨.type "dict", none, .dict es n, #[]⟩ ∧ PySem.W.KeysLit w.params es.toList) ∧
  ∀ z : Str, (PySem.W.nsIn K a z = some none ∧ tab.lookup z = none) ∨ ∃ u v wv, PySem.W.nsIn K a z = some (some u) ∧ RelV v u ∧ tab.lookup z = some wv ∧ ∀ ca H, Rp K ca H wv v
def eTabGet (tab : List (Str × W)) (b : EM) : EM := fun m => (b m).bind fun k m => match k with
  | .str z => .ok ((tab.lookup z).getD .none) m
  | _ => .bad
end
end DL
namespace DL
open PySem PySem.Spec PyProof.Rows L2
theorem PI.alt {X : Cx} {tg e : Expr} {t t' : TI} (h : PI X tg e t) (h' : PI X tg e t') : PI X tg e (fun σ H R => t σ H R ∨ t' σ H R) := ⟨fun pins s σ H R I hw => by
  rcases hw with hw | hw
  · exact h.run pins s σ H R I hw
  · exact h'.run pins s σ H R I hw⟩
def walkOf : W → Option (List W)
  | .list xs => some xs
  | .tuple xs => some xs
  | .dict kvs => if hndB kvs = true then some (keysW kvs) else none
  | _ => none
/-- a list, a tuple, a dict -/
def iS (a : EM) : LM := fun m => (a m).bind fun x m => opt (walkOf x) m
def iVs (a : EM) : LM := fun m => (a m).bind fun x m => match x with
  | .dict kvs => if hndB kvs = true then .ok (kvs.map (·.2)) m else .bad
  | _ => .bad
def iIt (a : EM) : LM := fun m => (a m).bind fun x m => match x with
  | .dict kvs => if hndB kvs = true then .ok (kvs.map fun kv => .tuple [kv.1, kv.2]) m else .bad
  | _ => .bad
theorem RpKv.at {K : PySem.W.Frag} {ca : CA} {H : Hp} : ∀ {kvs : List (W × W)} {ps : List (Key × V)} {i : Nat} {k : Key} {v : V}, RpKv K ca H kvs ps → ps[i]? = some (k, v) → ∃ x, kvs[i]? = some (kW k, x) ∧ Rp K ca H x v
  | [], ps, i, k, v, h, e => by simp only [RpKv] at h; subst h; simp at e
  | (q, x) :: r, ps, i, k, v, h, e => by
    simp only [RpKv] at h
    obtain ⟨q', u, t, rfl, rfl, h1, h2⟩ := h
    cases i with
    | zero => simp at e; obtain ⟨rfl, rfl⟩ := e; exact ⟨x, rfl, h1⟩
    | succ i =>
      obtain ⟨y, e1, e2⟩ := RpKv.at (i := i) h2 (by simpa using e)
      exact ⟨y, by simpa using e1, e2⟩
section
variable {K : PySem.W.Frag} {ca : CA} {H : Hp} {a : Addr} {o : Obj} {kvs : List (W × W)} {ps : List (Key × V)}
theorem dwalk_keys (f : H a = some (.frz o (.dK ps))) (r : RpKv K ca H kvs ps) : DWalk false K (Itk a o ps) ca H (keysW kvs) := by
  have hl : (keysW kvs).length = ps.length := by rw [r.length]; simp [keysW]
  refine ⟨fun i H' hi k => ⟨k.frz _ _ _ f, by rw [← hl]; exact hi⟩, fun H' k => ⟨k.frz _ _ _ f, by rw [hl]; exact Nat.le_refl _⟩, fun i H' x H2 w k e y => ?_⟩
  obtain ⟨rfl, kk, v, hk, rfl⟩ := y
  obtain ⟨x, e1, _⟩ := r.at hk
  unfold keysW at e
  rw [List.getElem?_map, e1] at e
  cases e
  exact ⟨fun _ _ h => h, rp_kV kk⟩
end
section
variable {D : DC} {Wx : WX} {X : Cx} {tg e : Expr} {ma : EM} {apos cpos : Pos}
theorem di_seq (hK : D.K = X.K) (h : DE D Wx X e ma) : DI false D Wx X tg e (iS ma) :=
  PI.mono (PI.alt (PI.alt (pi_list h) (pi_tup h)) (pi_keys h)) fun σ H R ⟨ca, ms, r, hh⟩ => by
    have one : ∀ {Q : VK}, (∀ w v ms1 ca1 H1, Ext ca H ca1 H1 → Rel D ca1 σ H1 ms1 → Rp D.K ca1 H1 w v → ma ms = .ok w ms1 → Po D Wx σ ca H (opt (walkOf w) ms1) (fun xs ms' => ∀ J ca' H', Ext ca H ca' H' → Rel D ca' σ H' ms' → DWalk false D.K J ca' H' xs → R J H') → Q v H1) → RdE D Wx ma σ H Q := fun {Q} q => by
      refine ⟨ca, ms, r, ?_⟩
      unfold iS at hh
      cases e : ma ms with
      | ok w ms1 =>
        rw [e] at hh
        exact fun v ca1 H1 x1 r1 p1 => q w v ms1 ca1 H1 x1 r1 p1 e hh
      | err c fs m => rw [e] at hh; exact hh
      | bad => rw [e] at hh; exact hh
    cases em : ma ms with
    | bad =>
      unfold iS at hh
      rw [em] at hh
      exact hh.elim
    | err c fs m =>
      refine .inl (.inl (one fun w v ms1 ca1 H1 x1 r1 p1 e1 h1 => ?_))
      rw [em] at e1; cases e1
    | ok w0 m0 =>
      cases w0 with
      | list xs =>
        refine .inl (.inl (one fun w v ms1 ca1 H1 x1 r1 p1 e1 h1 => ?_))
        rw [em] at e1; cases e1
        obtain ⟨a, vs, rfl, f, ra⟩ := p1.lst
        refine ⟨a, rfl, ⟨vs, by rw [← hK]; exact f.sq⟩, ?_⟩
        rw [← hK]
        exact h1 _ ca1 H1 x1 r1 (dwalk_list f ra)
      | tuple xs =>
        refine .inl (.inr (one fun w v ms1 ca1 H1 x1 r1 p1 e1 h1 => ?_))
        rw [em] at e1; cases e1
        obtain ⟨a, vs, rfl, f, ra⟩ := p1.tup
        refine ⟨a, rfl, ⟨vs, by rw [← hK]; exact f.sq⟩, ?_⟩
        rw [← hK]
        exact h1 _ ca1 H1 x1 r1 (dwalk_tup f ra)
      | dict kvs =>
        refine .inr (one fun w v ms1 ca1 H1 x1 r1 p1 e1 h1 => ?_)
        rw [em] at e1; cases e1
        obtain ⟨ys, ey, q⟩ := Po.opt h1
        have ey : (if hndB kvs = true then some (keysW kvs) else none) = some ys := ey
        by_cases hn : hndB kvs = true
        · rw [if_pos hn] at ey
          cases ey
          obtain ⟨a, ps, rfl, ⟨o, f⟩, rk⟩ := p1.fzd hn
          exact ⟨a, o, rfl, .inl ⟨ps, f, q _ ca1 H1 x1 r1 (dwalk_keys f rk)⟩⟩
        · rw [if_neg hn] at ey; cases ey
      | _ =>
        unfold iS at hh
        rw [em] at hh
        exact hh.elim
end
def Qt {α : Type} (f : MS → R α) : Prop := ∀ s w s', f s = .ok w s' → s'.env = s.env
theorem Qt.bind {α β : Type} {f : MS → R α} {g : α → MS → R β} (hf : Qt f) (hg : ∀ x, Qt (g x)) : Qt (fun m => (f m).bind g) := fun s w s' h => by
  have h : (f s).bind g = .ok w s' := h
  cases e : f s with
  | ok x m => rw [e] at h; exact (hg x m w s' h).trans (hf _ _ _ e)
  | err c fs m => rw [e] at h; cases h
  | bad => rw [e] at h; cases h
theorem qt_bad {α : Type} : Qt (fun _ => (R.bad : R α)) := fun s w s' h => by cases h
theorem qt_ok {α : Type} (a : α) : Qt (fun m => R.ok a m) := fun s w s' h => by cases h; rfl
theorem qt_opt {α : Type} (o : Option α) : Qt (fun m => opt o m) := by
  cases o with
  | none => exact qt_bad
  | some a => exact qt_ok a
theorem qt_ite {α : Type} {c : Prop} [Decidable c] {f g : MS → R α} (hf : Qt f) (hg : Qt g) : Qt (fun m => if c then f m else g m) := by
  by_cases h : c
  · simpa only [if_pos h] using hf
  · simpa only [if_neg h] using hg
section
variable {a b c : EM} {t u : TM} {l r it it1 : LM} {g : W → W → Option W} {lo hi : OM} {i : Nat}
theorem q_var : Qt (eVar i) := fun s w s' h => by
  unfold eVar at h
  split at h
  · cases h; rfl
  · cases h
theorem q_c {w : W} : Qt (eC w) := qt_ok w
theorem q_bin (ha : Qt a) (hb : Qt b) : Qt (eBin g a b) := ha.bind fun _ => hb.bind fun _ => qt_opt _
theorem q_val (ha : Qt a) : Qt (tVal a) := ha.bind fun x => by
  cases x with
  | bool k => exact qt_ok k
  | _ => exact qt_bad
theorem q_if (ht : Qt t) (ha : Qt a) (hb : Qt b) : Qt (eIf t a b) := ht.bind fun _ => qt_ite ha hb
theorem q_nil : Qt aNil := qt_ok []
theorem q_cons (ha : Qt a) (hr : Qt r) : Qt (aCons a r) := ha.bind fun _ => hr.bind fun _ => qt_ok _
theorem q_tup (hl : Qt l) : Qt (eTup l) := hl.bind fun _ => qt_ite (qt_ok _) qt_bad
theorem q_lst (hl : Qt l) : Qt (fLst l) := hl.bind fun _ => qt_ite (qt_ok _) qt_bad
theorem q_fz (hl : Qt l) : Qt (eFz l) := hl.bind fun _ => qt_ok _
theorem q_il (ha : Qt a) : Qt (iS a) := ha.bind fun _ => qt_opt _
theorem q_ir1 (hl : Qt l) : Qt (iR1 l) := hl.bind fun _ => qt_opt _
theorem q_ir2 (hl : Qt l) : Qt (iR2 l) := hl.bind fun _ => qt_opt _
theorem q_comp {g : GM} {own : List Nat} (hi : Qt it) : Qt (fComp it g t a own) := hi.bind fun xs s w s' h => by
  by_cases hof : ownFree s.env own = false
  · simp only [if_pos hof] at h; cases h
  · simp only [if_neg hof] at h
    split at h
    · split at h
      · cases h; rfl
      · cases h
    · cases h
theorem q_yes : Qt tYesM := qt_ok true
def eCut (a : EM) (lo hi : OM) : EM := fun m => (a m).bind fun x m => (lo m).bind fun l m => (hi m).bind fun u m => match x with
  | .tuple xs => .ok (.tuple (cutW xs l u)) m
  | .list xs => .ok (.list (cutW xs l u)) m
  | _ => .bad
/-- a new list, frozen at once -/
theorem dop_fz {D : DC} {X : Cx} {f : Value → Value → Sem Value} {g : W → W → Option (List W)} (h : DOpF D X f g) : DOp D X f (fun a b => (g a b).map PyData.list) := fun pins s σ ca H x y u1 u2 wx wy w Q I r1 r2 p1 p2 e q => by
  obtain ⟨ws, e1, rfl⟩ := Option.map_eq_some_iff.mp e
  refine thn (h pins s σ ca H x y u1 u2 wx wy ws (fun v H' => ∃ p vs, v = .ref p ∧ H p = none ∧ RpAll D.K ca H ws vs ∧ H' = upd H p (.lst vs)) I r1 r2 p1 p2 e1 fun p vs np pv => ⟨p, vs, rfl, np, pv, rfl⟩) fun v s1 ⟨x1, H1, I1, rv, p, vs, ev, np, pv, eH⟩ => ?_
  subst ev eH
  obtain ⟨od, I2⟩ := I1.lock upd_same trivial
  rw [upd_upd] at I2
  have gr : Same H (upd H p (.frz od (.lst vs))) := Same.upd_new np
  exact ⟨_, _, I2, rv, q _ _ gr (by simp only [Rp]; exact ⟨p, vs, rfl, .inl ⟨od, upd_same⟩, RpAll.mono (.of_same gr) _ _ pv⟩)⟩
theorem DCallF.fz {D : DC} {X : Cx} {f : Value} {g : List W → Option (List W)} (h : DCallF D X f g) : DCall D X f (fun ws => (g ws).map PyData.list) := fun pins s σ ca H xs us ws w Q I r1 p1 e q => by
  obtain ⟨ys, e1, rfl⟩ := Option.map_eq_some_iff.mp e
  refine thn (h pins s σ ca H xs us ws ys (fun v H' => ∃ p vs, v = .ref p ∧ H p = none ∧ RpAll D.K ca H ys vs ∧ H' = upd H p (.lst vs)) I r1 p1 e1 fun p vs np pv => ⟨p, vs, rfl, np, pv, rfl⟩) fun v s1 ⟨x1, H1, I1, rv, p, vs, ev, np, pv, eH⟩ => ?_
  subst ev eH
  obtain ⟨od, I2⟩ := I1.lock upd_same trivial
  rw [upd_upd] at I2
  have gr : Same H (upd H p (.frz od (.lst vs))) := Same.upd_new np
  exact ⟨_, _, I2, rv, q _ _ gr (by simp only [Rp]; exact ⟨p, vs, rfl, .inl ⟨od, upd_same⟩, RpAll.mono (.of_same gr) _ _ pv⟩)⟩
def gPlus (a b : W) : Option W := (gAdd a b).or ((gCatL a b).map PyData.list)
theorem dop_plus {D : DC} {X : Cx} (hK : D.K = X.K) (h : DOp D X (binaryOp .Add) gAdd) : DOp D X (binaryOp .Add) gPlus := h.or (dop_fz (dop_catL hK))
def gTimes (a b : W) : Option W := (gMul a b).or ((gRepL a b).map PyData.list)
theorem dop_times {D : DC} {X : Cx} (hK : D.K = X.K) : DOp D X (binaryOp .Mult) gTimes := (dop_mul hK).or (dop_fz (dop_repL hK))
end
end DL
namespace DL
open PySem PySem.Spec PyProof.Rows L2
def hnd (k : Nat) : W := .dict [(.none, .int k)]
def hndOf : W → Option Nat
  | .dict [(.none, .int k)] => if 0 ≤ k then some k.toNat else none
  | _ => none
theorem hndOf_eq {w : W} {k : Nat} (h : hndOf w = some k) : w = hnd k := by
  unfold hndOf at h
  split at h
  · rename_i j
    split at h
    · cases h
      unfold hnd
      rw [Int.toNat_of_nonneg (by assumption)]
    · cases h
  · cases h
/-- the slot i holds the state: its cell -/
def cellAt (m : MS) (i : Nat) : Option (Nat × List Int × List Int × Int × Int) := match m.env[i]? with
  | some (some (.fz w)) => match hndOf w with
    | some k => match m.cells[k]? with
      | some (.draw cs ls a r) => some (k, cs, ls, a, r)
      | _ => none
    | none => none
  | _ => none
theorem cellAt_inv {m : MS} {i k : Nat} {cs ls : List Int} {a r : Int} (h : cellAt m i = some (k, cs, ls, a, r)) : m.env[i]? = some (some (.fz (hnd k))) ∧ m.cells[k]? = some (.draw cs ls a r) := by
  unfold cellAt at h
  split at h
  · rename_i w e1
    split at h
    · rename_i j e2
      split at h
      · rename_i cs' ls' a' r' e3
        cases h
        rw [hndOf_eq e2] at e1
        exact ⟨e1, e3⟩
      · cases h
    · cases h
  · cases h
section
variable {D : DC} {ca : CA} {σ : L2.St} {H : Hp} {ms : MS}
theorem Rel.cell_at (r : Rel D ca σ H ms) (st : D.st = true) {i k : Nat} {cs ls : List Int} {a rm : Int} (h : cellAt ms i = some (k, cs, ls, a, rm)) :
    ∃ s c l, σ[i]? = some (some (.ref s)) ∧ ca[k]? = some [s, c, l] ∧ H s = some (.dK [(Sum.inr "cells", .ref c), (Sum.inr "lefts", .ref l), (Sum.inr "at", .int a), (Sum.inr "room", .int rm)]) ∧ H c = some (.lst (cs.map V.int)) ∧ H l = some (.lst (ls.map V.int)) := by
  obtain ⟨h1, h2⟩ := cellAt_inv h
  obtain ⟨v, e1, q⟩ := r.slots i _ h1
  have q : Rp D.K ca H (.dict [(.none, .int (k : Int))]) v := q
  simp only [Rp] at q
  rcases q with ⟨k', a', as, ek, ec, rfl⟩ | ⟨p, ps, _, _, rk⟩ | q
  rotate_right
  · obtain ⟨m, r, a, xs, z, _⟩ := q.inv
    cases z
  · have ek : k' = k := by have := ek.symm; simp at this; omega
    subst ek
    obtain ⟨s, c, l, e, a1, a2, a3⟩ := r.cells k' _ _ h2 ec
    cases e
    exact ⟨a', c, l, e1, ec, a1, a2, a3⟩
  · simp only [RpKv] at rk
    obtain ⟨q', _, _, _, e, _⟩ := rk
    cases q' <;> simp [kW] at e
theorem nd_get {ca : CA} (nd : ca.flatten.Nodup) {k j : Nat} {as bs : List Addr} {b : Addr} (h1 : ca[k]? = some as) (h2 : ca[j]? = some bs) (m1 : b ∈ as) (m2 : b ∈ bs) : k = j := by
  induction ca generalizing k j with
  | nil => simp at h1
  | cons x xs ih =>
    rw [List.flatten_cons, List.nodup_append] at nd
    obtain ⟨_, n2, n3⟩ := nd
    cases k with
    | zero =>
      cases j with
      | zero => rfl
      | succ j =>
        simp at h1 h2
        subst h1
        exact absurd rfl (n3 b m1 b (flat_mem h2 m2))
    | succ k =>
      cases j with
      | zero =>
        simp at h1 h2
        subst h2
        exact absurd rfl (n3 b m2 b (flat_mem h1 m1))
      | succ j => exact congrArg Nat.succ (ih n2 (k := k) (j := j) (by simpa using h1) (by simpa using h2))
theorem nd_in {ca : CA} (nd : ca.flatten.Nodup) {k : Nat} {as : List Addr} (h1 : ca[k]? = some as) : as.Nodup := by
  induction ca generalizing k with
  | nil => simp at h1
  | cons x xs ih =>
    rw [List.flatten_cons, List.nodup_append] at nd
    cases k with
    | zero => simp at h1; subst h1; exact nd.1
    | succ k => exact ih nd.2.1 (by simpa using h1)
/-- the same cell, later -/
theorem Rel.cell_again (r : Rel D ca σ H ms) (st : D.st = true) {i k k0 : Nat} {cs ls : List Int} {a rm : Int} {s c l : Addr} (h : cellAt ms i = some (k, cs, ls, a, rm)) (hs : σ[i]? = some (some (.ref s))) (hk : ca[k0]? = some [s, c, l]) :
    k = k0 ∧ H s = some (.dK [(Sum.inr "cells", .ref c), (Sum.inr "lefts", .ref l), (Sum.inr "at", .int a), (Sum.inr "room", .int rm)]) ∧ H c = some (.lst (cs.map V.int)) ∧ H l = some (.lst (ls.map V.int)) := by
  obtain ⟨s1, c1, l1, h1, h2, h3, h4, h5⟩ := r.cell_at st h
  rw [hs] at h1
  cases h1
  have e := nd_get r.nd h2 hk (b := s) (by simp) (by simp)
  subst e
  rw [hk] at h2
  cases h2
  exact ⟨rfl, h3, h4, h5⟩
/-- a cell's object is written -/
theorem Rel.cell_set (r : Rel D ca σ H ms) (st : D.st = true) {k : Nat} {as : List Addr} {b : Addr} {o o' : HO} {c c' : Cell} (hc : ms.cells[k]? = some c) (ha : ca[k]? = some as) (hb : b ∈ as) (ho : H b = some o) (mu : Mut (some o)) (new : CellAt D.K ca (upd H b o') c' as) :
    Rel D ca σ (upd H b o') { ms with cells := ms.cells.set k c' } := by
  have kp : Kp H (upd H b o') := Kp.upd_mut ho mu
  have hf := flat_mem ha hb
  refine ⟨?_, fun j d bs e1 e2 => ?_, r.nd, r.pre, fun x u e hz hn => ?_, r.new, r.slen, fun i y e => ?_, r.sep, r.c0, r.oca, tabs_upd r.tb ho ((r.cells k c as hc ha).notab b hb o ho).1 ((r.cells k c as hc ha).notab b hb o ho).2, r.fb⟩
  · have hl := r.len
    rw [if_pos st] at hl ⊢
    simpa using hl
  · have e1 : (ms.cells.set k c')[j]? = some d := e1
    by_cases hk : k = j
    · subst hk
      have hlt : k < ms.cells.length := by
        rcases Nat.lt_or_ge k ms.cells.length with h | h
        · exact h
        · rw [List.getElem?_eq_none h] at hc; cases hc
      rw [List.getElem?_set_self hlt] at e1
      cases e1
      rw [ha] at e2
      cases e2
      exact new
    · rw [List.getElem?_set_ne hk] at e1
      exact (r.cells j d bs e1 e2).at_ kp fun x hx u h => by
        rw [upd_ne (fun z => by subst z; exact hk (nd_get r.nd ha e2 hb hx))]; exact h
  · by_cases hx : x = b
    · subst hx
      exfalso
      rcases r.ca_split hf with h | h
      · exact hn st h
      · have := r.new x h
        rw [e] at this; cases this
    · rw [upd_ne hx]
      exact r.fr x u e hz hn
  · have e : ms.env[i]? = some (some y) := e
    obtain ⟨v, e1, q⟩ := r.slots i y e
    refine ⟨v, e1, ?_⟩
    cases y with
    | fz w => exact Rp.mono ⟨kp, List.prefix_refl _⟩ _ _ q
    | pin w => exact q
    | ow xs =>
      obtain ⟨p, rfl, h0, vs, a1, a2⟩ := q
      have hne : p ≠ b := fun z => by subst z; exact r.oca i p (by rw [e]; rfl) e1 hf
      exact ⟨p, rfl, h0, vs, by rw [upd_ne hne]; exact a1, RpAll.mono ⟨kp, List.prefix_refl _⟩ _ _ a2⟩
    | od xs =>
      obtain ⟨p, rfl, h0, vs, a1, a2⟩ := q
      have hne : p ≠ b := fun z => by subst z; exact r.oca i p (by rw [e]; rfl) e1 hf
      exact ⟨p, rfl, h0, vs, by rw [upd_ne hne]; exact a1, RpKv.mono ⟨kp, List.prefix_refl _⟩ _ _ a2⟩
    | on xs =>
      obtain ⟨p, rfl, h0, s1, s2, vs, a1, nn, a2⟩ := q
      have hne : p ≠ b := fun z => by subst z; exact r.oca i p (by rw [e]; rfl) e1 hf
      exact ⟨p, rfl, h0, s1, s2, vs, by rw [upd_ne hne]; exact a1, nn, RpN.mono ⟨kp, List.prefix_refl _⟩ _ _ a2⟩
end
/-- state['at'] -/
def eCAt (i : Nat) : EM := fun m => match cellAt m i with
  | some (_, _, _, a, _) => .ok (.int a) m
  | none => .bad
/-- len(state['cells']) -/
def eCLen (i : Nat) : EM := fun m => match cellAt m i with
  | some (_, cs, _, _, _) => .ok (.int cs.length) m
  | none => .bad
/-- state['cells'][e] -/
def eCCell (i : Nat) (a : EM) : EM := fun m => match cellAt m i with
  | some _ => (a m).bind fun k m => match cellAt m i with
    | some (_, cs, _, _, _) => match k with
      | .int k => match atI cs k with
        | some x => .ok (.int x) m
        | none => .bad
      | _ => .bad
    | none => .bad
  | none => .bad
def eCLeft (i : Nat) (a : EM) : EM := fun m => match cellAt m i with
  | some _ => (a m).bind fun k m => match cellAt m i with
    | some (_, _, ls, _, _) => match k with
      | .int k => match atI ls k with
        | some x => .ok (.int x) m
        | none => .bad
      | _ => .bad
    | none => .bad
  | none => .bad
def sCAt (i : Nat) (a : EM) : SM := fun m => (a m).bind fun w m => match cellAt m i with
  | some (k, cs, ls, _, r) => match w with
    | .int x => .ok .next { m with cells := m.cells.set k (.draw cs ls x r) }
    | _ => .bad
  | none => .bad
def sCLeft (i : Nat) (b a : EM) : SM := fun m => (a m).bind fun w m => match cellAt m i with
  | some _ => match b m with
    | .ok (.int t) m => match cellAt m i with
      | some (k, cs, ls, at_, r) => match w with
        | .int x => match ixN ls.length t with
          | some j => .ok .next { m with cells := m.cells.set k (.draw cs (ls.set j x) at_ r) }
          | none => .bad
        | _ => .bad
      | none => .bad
    | _ => .bad
  | none => .bad
theorem rp_intsAt {K : PySem.W.Frag} {ca : CA} {H : Hp} {cs : List Int} {k x : Int} (h : atI cs k = some x) : atI (cs.map V.int) k = some (.int x) := by
  unfold atI at h ⊢
  rw [List.length_map]
  cases e : ixN cs.length k with
  | none => rw [e] at h; cases h
  | some j =>
    rw [e] at h
    have h : cs[j]? = some x := h
    show (cs.map V.int)[j]? = _
    rw [List.getElem?_map, h]
    rfl
section
variable {D : DC} {Wx : WX} {X : Cx} {e b : Expr} {me mb : EM} {i j : Nat} {x : Str} {p1 p2 p3 p4 p5 pos : Pos}
/-- the state's dict at a text key -/
theorem pe_stk {key : Str} {kj : Nat} (hu : X.A.units + 1 < cLine) (hN : X.N[i]? = some x) (hv : Vis X.env.scope x) (hs : NoSl (.Constant (.str key) j p2)) (hd : (x == ("__debug__" : Str)) = false := by decide) (hcd : (x == ("__classdict__" : Str)) = false := by decide) :
    PE X (.Subscript (.Name x p1) (.Constant (.str key) j p2) pos) (fun σ H Q => ∃ a v kvs, σ[i]? = some (some (.ref a)) ∧ H a = some (.dK kvs) ∧ valV kvs (Sum.inr key) = some v ∧ Q v H) :=
  PE.mono (pe_dget hu (pe_var hN hv hd hcd) pe_str hs) fun σ H Q ⟨a, v, kvs, h1, h2, h3, q⟩ => ⟨.ref a, h1, a, v, rfl, .inl ⟨kvs, Sum.inr key, .inl h2, rfl, h3.symm⟩, q⟩
theorem de_cAt (hu : X.A.units + 1 < cLine) (st : D.st = true) (hN : X.N[i]? = some x) (hv : Vis X.env.scope x) (hs : NoSl (.Constant (.str "at") j p2)) (hd : (x == ("__debug__" : Str)) = false := by decide) (hcd : (x == ("__classdict__" : Str)) = false := by decide) :
    DE D Wx X (.Subscript (.Name x p1) (.Constant (.str "at") j p2) pos) (eCAt i) := PE.mono (pe_stk (kj := 0) hu hN hv hs hd hcd) fun σ H Q ⟨ca, ms, r, h⟩ => by
  unfold eCAt at h
  cases ec : cellAt ms i with
  | none => rw [ec] at h; exact h.elim
  | some t =>
    obtain ⟨k, cs, ls, a, rm⟩ := t
    rw [ec] at h
    obtain ⟨s, c, l, h1, h2, h3, h4, h5⟩ := r.cell_at st ec
    exact ⟨s, .int a, _, h1, h3, rfl, h _ ca H (.refl _ _) r rp_int⟩
theorem de_cCell (hu : X.A.units + 1 < cLine) (st : D.st = true) (hN : X.N[i]? = some x) (hv : Vis X.env.scope x) (hs : NoSl (.Constant (.str "cells") j p2)) (he : DE D Wx X e me) (hs2 : PlainIx e) (hd : (x == ("__debug__" : Str)) = false := by decide) (hcd : (x == ("__classdict__" : Str)) = false := by decide) :
    DE D Wx X (.Subscript (.Subscript (.Name x p1) (.Constant (.str "cells") j p2) p3) e pos) (eCCell i me) := PE.mono (pe_ix ix_list (pe_stk (kj := 0) hu hN hv hs hd hcd) he hs2) fun σ H Q ⟨ca, ms, r, h⟩ => by
  unfold eCCell at h
  cases ec : cellAt ms i with
  | none => rw [ec] at h; exact h.elim
  | some t =>
    obtain ⟨k, cs, ls, a, rm⟩ := t
    rw [ec] at h
    obtain ⟨s, c, l, h1, h2, h3, h4, h5⟩ := r.cell_at st ec
    refine ⟨s, .ref c, _, h1, h3, rfl, RdE.bind r h fun wk kv ms1 ca1 H1 x1 r1 pk hh => ?_⟩
    cases ec1 : cellAt ms1 i with
    | none => rw [ec1] at hh; exact hh.elim
    | some t1 =>
      obtain ⟨k1, cs1, ls1, a1, rm1⟩ := t1
      rw [ec1] at hh
      obtain ⟨rfl, g3, g4, g5⟩ := r1.cell_again st ec1 h1 (pre_get x1.pre h2)
      cases wk with
      | int t =>
        obtain rfl := pk.int
        cases ea : atI cs1 t with
        | none => simp only [ea] at hh; exact hh.elim
        | some y =>
          simp only [ea] at hh
          exact ⟨c, _, t, .int y, rfl, rfl, .of g4, rp_intsAt (K := D.K) (ca := ca1) (H := H1) ea, hh _ ca1 H1 x1 r1 rp_int⟩
      | _ => exact hh.elim
theorem de_cLeft (hu : X.A.units + 1 < cLine) (st : D.st = true) (hN : X.N[i]? = some x) (hv : Vis X.env.scope x) (hs : NoSl (.Constant (.str "lefts") j p2)) (he : DE D Wx X e me) (hs2 : PlainIx e) (hd : (x == ("__debug__" : Str)) = false := by decide) (hcd : (x == ("__classdict__" : Str)) = false := by decide) :
    DE D Wx X (.Subscript (.Subscript (.Name x p1) (.Constant (.str "lefts") j p2) p3) e pos) (eCLeft i me) := PE.mono (pe_ix ix_list (pe_stk (kj := 0) hu hN hv hs hd hcd) he hs2) fun σ H Q ⟨ca, ms, r, h⟩ => by
  unfold eCLeft at h
  cases ec : cellAt ms i with
  | none => rw [ec] at h; exact h.elim
  | some t =>
    obtain ⟨k, cs, ls, a, rm⟩ := t
    rw [ec] at h
    obtain ⟨s, c, l, h1, h2, h3, h4, h5⟩ := r.cell_at st ec
    refine ⟨s, .ref l, _, h1, h3, rfl, RdE.bind r h fun wk kv ms1 ca1 H1 x1 r1 pk hh => ?_⟩
    cases ec1 : cellAt ms1 i with
    | none => rw [ec1] at hh; exact hh.elim
    | some t1 =>
      obtain ⟨k1, cs1, ls1, a1, rm1⟩ := t1
      rw [ec1] at hh
      obtain ⟨rfl, g3, g4, g5⟩ := r1.cell_again st ec1 h1 (pre_get x1.pre h2)
      cases wk with
      | int t =>
        obtain rfl := pk.int
        cases ea : atI ls1 t with
        | none => simp only [ea] at hh; exact hh.elim
        | some y =>
          simp only [ea] at hh
          exact ⟨l, _, t, .int y, rfl, rfl, .of g5, rp_intsAt (K := D.K) (ca := ca1) (H := H1) ea, hh _ ca1 H1 x1 r1 rp_int⟩
      | _ => exact hh.elim
theorem de_cLen (hK : D.K = X.K) (hu : X.A.units + 1 < cLine) (st : D.st = true) (hN : X.N[i]? = some x) (hv : Vis X.env.scope x) (hs : NoSl (.Constant (.str "cells") j p2)) (hg : Gl X "len") (hm : X.mg "len" = none)
    (hs2 : starEach [.Subscript (.Name x p1) (.Constant (.str "cells") j p2) p3] X.env = (false, eval (.Subscript (.Name x p1) (.Constant (.str "cells") j p2) p3) X.env) :: starEach [] X.env := by rfl)
    (hd : (x == ("__debug__" : Str)) = false := by decide) (hcd : (x == ("__classdict__" : Str)) = false := by decide) :
    DE D Wx X (.Call (.Name "len" p4) [.Subscript (.Name x p1) (.Constant (.str "cells") j p2) p3] [] pos) (eCLen i) := PE.mono (pe_callB call_len_seq hg hm boot_len (pa_cons (pe_stk (kj := 0) hu hN hv hs hd hcd) pa_nil hs2) (by decide) (by decide) hs2 rfl) fun σ H Q ⟨ca, ms, r, h⟩ => by
  unfold eCLen at h
  cases ec : cellAt ms i with
  | none => rw [ec] at h; exact h.elim
  | some t =>
    obtain ⟨k, cs, ls, a, rm⟩ := t
    rw [ec] at h
    obtain ⟨s, c, l, h1, h2, h3, h4, h5⟩ := r.cell_at st ec
    refine ⟨s, .ref c, _, h1, h3, rfl, c, _, rfl, .inl (.of h4), ?_⟩
    rw [List.length_map]
    exact h _ ca H (.refl _ _) r rp_int
theorem CellAt.draw_at {K : PySem.W.Frag} {ca : CA} {H : Hp} {cs ls : List Int} {a rm : Int} {s c l : Addr} (h1 : H s = some (.dK [(Sum.inr "cells", .ref c), (Sum.inr "lefts", .ref l), (Sum.inr "at", .int a), (Sum.inr "room", .int rm)])) (h2 : H c = some (.lst (cs.map V.int))) (h3 : H l = some (.lst (ls.map V.int))) : CellAt K ca H (.draw cs ls a rm) [s, c, l] :=
  ⟨s, c, l, rfl, h1, h2, h3⟩
theorem ds_cAt (hu : X.A.units + 1 < cLine) (st : D.st = true) (hN : X.N[i]? = some x) (hv : Vis X.env.scope x) (he : DE D Wx X e me) (hs : swapsWith e (some (.Subscript (.Name x p1) (.Constant (.str "at") j p2) p3)) pos.line X.env = pure false)
    (hd : (x == ("__debug__" : Str)) = false := by decide) (hcd : (x == ("__classdict__" : Str)) = false := by decide) : DS D Wx X (.Assign [.Subscript (.Name x p1) (.Constant (.str "at") j p2) p3] e pos) (sCAt i me) :=
  PS.mono (ps_dput hu (pe_var hN hv hd hcd) pe_str he hs) fun Q σ H h => by
    obtain ⟨ca, ms, r, h⟩ := h.inv
    refine RdE.bind r h fun w v ms1 ca1 H1 x1 r1 p1 h1 => ?_
    cases ec : cellAt ms1 i with
    | none => simp only [ec] at h1; exact h1.elim
    | some t =>
      obtain ⟨k, cs, ls, a, rm⟩ := t
      simp only [ec] at h1
      obtain ⟨s, c, l, g1, g2, g3, g4, g5⟩ := r1.cell_at st ec
      cases w with
      | int y =>
        obtain rfl := p1.int
        have hz : (4 : Nat) < sizeLine := by rw [sizeLine_eq]; decide
        have nd := nd_in r1.nd g2
        have n1 : c ≠ s := fun z => by simp [z] at nd
        have n2 : l ≠ s := fun z => by simp [z] at nd
        refine ⟨.ref s, g1, s, _, rfl, DPut.k (k := Sum.inr "at") g3 hz, ?_⟩
        have kp : Kp H1 (upd H1 s (.dK (putK [(Sum.inr "cells", .ref c), (Sum.inr "lefts", .ref l), (Sum.inr "at", .int a), (Sum.inr "room", .int rm)] (Sum.inr "at") (.int y)))) := Kp.upd_mut g3 trivial
        have new : CellAt D.K ca1 (upd H1 s (.dK (putK [(Sum.inr "cells", .ref c), (Sum.inr "lefts", .ref l), (Sum.inr "at", .int a), (Sum.inr "room", .int rm)] (Sum.inr "at") (.int y)))) (.draw cs ls y rm) [s, c, l] :=
          CellAt.draw_at (by rw [upd_same]; rfl) (by rw [upd_ne n1]; exact g4) (by rw [upd_ne n2]; exact g5)
        exact h1 σ ca1 _ (x1.trans ⟨kp, List.prefix_refl _⟩) (r1.cell_set st (cellAt_inv ec).2 g2 (by simp) g3 trivial new)
      | _ => exact h1.elim
theorem ds_cLeft {b : Expr} {mb : EM} (hu : X.A.units + 1 < cLine) (st : D.st = true) (hN : X.N[i]? = some x) (hv : Vis X.env.scope x) (hs0 : NoSl (.Constant (.str "lefts") j p2)) (he : DE D Wx X e me) (hb : DE D W0 X b mb)
    (hsw : swapsWithSole [.Subscript (.Subscript (.Name x p1) (.Constant (.str "lefts") j p2) p3) b p4] e pos.line X.env = pure false := by rfl)
    (hw : swappedStores [.Subscript (.Subscript (.Name x p1) (.Constant (.str "lefts") j p2) p3) b p4] e X.env = pure none := by rfl)
    (hae : (assignEach [.Subscript (.Subscript (.Name x p1) (.Constant (.str "lefts") j p2) p3) b p4] X.env).map (·.2) = [assign (.Subscript (.Subscript (.Name x p1) (.Constant (.str "lefts") j p2) p3) b p4) X.env] := by rfl)
    (ha : ∀ v, assign (.Subscript (.Subscript (.Name x p1) (.Constant (.str "lefts") j p2) p3) b p4) X.env v = (do
      let ov ← holding [v] (eval (.Subscript (.Name x p1) (.Constant (.str "lefts") j p2) p3) X.env)
      let iv ← holding [v, ov] (eval b X.env)
      standAt p4
      holding [v, ov, iv] (setItem ov iv v)
      release [v, ov, iv] []) := by intro _; rfl)
    (hd : (x == ("__debug__" : Str)) = false := by decide) (hcd : (x == ("__classdict__" : Str)) = false := by decide) :
    DS D Wx X (.Assign [.Subscript (.Subscript (.Name x p1) (.Constant (.str "lefts") j p2) p3) b p4] e pos) (sCLeft i mb me) :=
  PS.mono (ps_asg he (pg_sub (pe_stk (kj := 0) hu hN hv hs0 hd hcd) hb set_list ha) hsw hw hae) fun Q σ H h => by
    obtain ⟨ca, ms, r, h⟩ := h.inv
    refine RdE.bind r h fun w v ms1 ca1 H1 x1 r1 p1 h1 => ?_
    cases ec : cellAt ms1 i with
    | none => simp only [ec] at h1; exact h1.elim
    | some t =>
      obtain ⟨k, cs, ls, a, rm⟩ := t
      simp only [ec] at h1
      obtain ⟨s, c, l, g1, g2, g3, g4, g5⟩ := r1.cell_at st ec
      refine ⟨s, .ref l, _, g1, g3, rfl, ?_⟩
      cases eb : mb ms1 with
      | bad => simp only [eb] at h1; exact h1.elim
      | err c fs m => simp only [eb] at h1; exact h1.elim
      | ok wt ms2 =>
        cases wt with
        | int t =>
          simp only [eb] at h1
          refine RdE.okk r1 eb fun kv ca2 H2 x2 r2 p2 => ?_
          obtain rfl := p2.int
          cases ec2 : cellAt ms2 i with
          | none => simp only [ec2] at h1; exact h1.elim
          | some t2 =>
            obtain ⟨k2, cs2, ls2, a2, rm2⟩ := t2
            simp only [ec2] at h1
            obtain ⟨rfl, f3, f4, f5⟩ := r2.cell_again st ec2 g1 (pre_get x2.pre g2)
            cases w with
            | int y =>
              cases ej : ixN ls2.length t with
              | none => simp only [ej] at h1; exact h1.elim
              | some jj =>
                simp only [ej] at h1
                obtain rfl := (Rp.mono x2 _ _ p1).int
                refine ⟨l, _, t, jj, rfl, rfl, f5, by rw [List.length_map]; exact ej, ?_⟩
                have nd := nd_in r1.nd g2
                have n1 : s ≠ l := fun z => by simp [z] at nd
                have n2 : c ≠ l := fun z => by simp [z] at nd
                have kp : Kp H2 (upd H2 l (.lst ((ls2.map V.int).set jj (.int y)))) := Kp.upd_mut f5 trivial
                have new : CellAt D.K ca2 (upd H2 l (.lst ((ls2.map V.int).set jj (.int y)))) (.draw cs2 (ls2.set jj y) a2 rm2) [s, c, l] :=
                  CellAt.draw_at (by rw [upd_ne n1]; exact f3) (by rw [upd_ne n2]; exact f4) (by rw [upd_same, List.map_set])
                exact h1 σ ca2 _ (x1.trans (x2.trans ⟨kp, List.prefix_refl _⟩)) (r2.cell_set st (cellAt_inv ec2).2 (pre_get x2.pre g2) (by simp) f5 trivial new)
            | _ => exact h1.elim
        | _ => simp only [eb] at h1; exact h1.elim
end
end DL
namespace DL
open PySem PySem.Spec PyProof.Rows L2
def fIf (t : TM) (a b : LM) : LM := fun m => (t m).bind fun x m => if x = true then a m else b m
section
variable {D : DC} {Wx : WX} {X : Cx} {c a b : Expr} {mt : TM} {ma mb : LM} {pos : Pos}
theorem df_if (hc : DT D Wx X c mt) (ha : DF D Wx X a ma) (hb : DF D Wx X b mb) : DF D Wx X (.IfExp c a b pos) (fIf mt ma mb) :=
  PE.mono (pe_ifExp hc ha hb) fun σ H Q ⟨ca, ms, r, h⟩ => RdT.bind r h fun k ms1 ca1 H1 x1 r1 h1 => by
    have go : ∀ {rr : R (List W)}, Po D Wx σ ca H rr (FQ D σ ca H Q) → Po D Wx σ ca1 H1 rr (FQ D σ ca1 H1 Q) := fun {rr} h => (h.ext x1).imp fun w ms' q p vs ca' H' x' => q p vs ca' H' (x1.trans x')
    cases k with
    | true => exact ⟨ca1, ms1, r1, go h1⟩
    | false => exact ⟨ca1, ms1, r1, go h1⟩
def sBegin (i : Nat) (l : LM) : SM := fun m => match ownAt m.env i with
  | some (.ow _) => (l m).bind fun ws m => match ownAt m.env i with
    | some (.ow xs) => match intsOf xs, intsOf ws with
      | some cs, some ls => .ok (.ret (hnd m.cells.length)) { env := m.env.map fun _ => none, cells := m.cells ++ [.draw cs ls 0 0] }
      | _, _ => .bad
    | _ => .bad
  | _ => .bad
theorem Rel.newcell {D : DC} {ca : CA} {σ : L2.St} {H : Hp} {ms : MS} {as : List Addr} {c : Cell} (r : Rel D ca σ H ms) (st : D.st = true) (hnd : as.Nodup) (hca : ∀ b ∈ as, b ∉ ca.flatten) (h0 : ∀ b ∈ as, D.H0 b = none) (hc : CellAt D.K (ca ++ [as]) H c as) :
    Rel D (ca ++ [as]) σ H { env := ms.env.map fun _ => none, cells := ms.cells ++ [c] } := by
  have hl := r.len
  rw [if_pos st] at hl
  have noown : ∀ i : Nat, Sl.isOwn (ms.env.map fun _ => (none : Option Sl))[i]? = false := fun i => by
    rw [List.getElem?_map]
    cases ms.env[i]? <;> rfl
  have up : ∀ {d : Cell} {bs : List Addr}, CellAt D.K ca H d bs → CellAt D.K (ca ++ [as]) H d bs := fun {d bs} h => by
    cases d with
    | draw cs ls a rm => exact h
    | inst cn fs =>
      obtain ⟨x, dx, fs', e, a1, a2, a3⟩ := h
      exact ⟨x, dx, fs', e, a1, a2, RpFs.mono ⟨.refl _, List.prefix_append _ _⟩ _ _ a3⟩
    | lst xs =>
      obtain ⟨x, vs, e, a1, a2⟩ := h
      exact ⟨x, vs, e, a1, RpAll.mono ⟨.refl _, List.prefix_append _ _⟩ _ _ a2⟩
    | dct xs =>
      obtain ⟨x, vs, e, a1, a2⟩ := h
      exact ⟨x, vs, e, a1, RpKv.mono ⟨.refl _, List.prefix_append _ _⟩ _ _ a2⟩
    | exc cn fs =>
      obtain ⟨x, dx, fs', e, a1, a2, a3⟩ := h
      exact ⟨x, dx, fs', e, a1, a2, RpFs.mono ⟨.refl _, List.prefix_append _ _⟩ _ _ a3⟩
  obtain ⟨t, et⟩ := r.pre
  refine ⟨?_, fun k d bs e1 e2 => ?_, ?_, r.pre.trans (List.prefix_append _ _), r.fr, fun b hb => ?_, by show (ms.env.map _).length = _; rw [List.length_map, r.slen], fun i y e => ?_, fun i j v _ e => ?_, r.c0, fun i p e => ?_, r.tb, r.fb⟩
  · rw [if_pos st]
    show (ms.cells ++ [c]).length = (ca ++ [as]).length
    rw [List.length_append, List.length_append, hl]
    rfl
  · have e1 : (ms.cells ++ [c])[k]? = some d := e1
    by_cases hk : k < ms.cells.length
    · rw [List.getElem?_append_left hk] at e1
      rw [List.getElem?_append_left (by rw [← hl]; exact hk)] at e2
      exact up (r.cells k d bs e1 e2)
    · have hk2 : k = ms.cells.length := by
        have : k < (ms.cells ++ [c]).length := by
          rcases Nat.lt_or_ge k (ms.cells ++ [c]).length with h | h
          · exact h
          · rw [List.getElem?_eq_none h] at e1; cases e1
        simp at this
        omega
      subst hk2
      rw [List.getElem?_append_right (Nat.le_refl _), Nat.sub_self] at e1
      rw [hl, List.getElem?_append_right (Nat.le_refl _), Nat.sub_self] at e2
      cases e1
      cases e2
      exact hc
  · rw [List.flatten_append, List.flatten_cons, List.flatten_nil, List.append_nil, List.nodup_append]
    exact ⟨r.nd, hnd, fun b hb b' hb' z => hca b' hb' (z ▸ hb)⟩
  · have hle : D.ca0.length ≤ ca.length := by rw [← et]; simp
    rw [List.drop_append_of_le_length hle, List.flatten_append] at hb
    rcases List.mem_append.mp hb with h | h
    · exact r.new b h
    · exact h0 b (by simpa using h)
  · have e : (ms.env.map fun _ => (none : Option Sl))[i]? = some (some y) := e
    rw [List.getElem?_map] at e
    cases e2 : ms.env[i]? <;> rw [e2] at e <;> cases e
  · have e : Sl.isOwn (ms.env.map fun _ => (none : Option Sl))[i]? = true := e
    rw [noown i] at e; cases e
  · have e : Sl.isOwn (ms.env.map fun _ => (none : Option Sl))[i]? = true := e
    rw [noown i] at e; cases e
theorem ds_begin {i : Nat} {x : Str} {p0 p1 p2 p3 p4 p5 p6 q2 : Pos} {j1 j2 j3 j4 j5 j6 : Nat} {e : Expr} {l : LM} (st : D.st = true) (hN : X.N[i]? = some x) (hv : Vis X.env.scope x) (hf : ∀ D' : DC, D'.K = X.K → D'.sx = D.sx → DF D' Wx X e l) (hK : D.K = X.K)
    (hd : (x == ("__debug__" : Str)) = false := by decide) (hcd : (x == ("__classdict__" : Str)) = false := by decide) :
    DS D Wx X (.Return (some (.Dict [some (.Constant (.str "cells") j1 p1), some (.Constant (.str "lefts") j2 p2), some (.Constant (.str "at") j3 p3), some (.Constant (.str "room") j4 p4)] [.Name x q2, e, .Constant (.int 0) j5 p5, .Constant (.int 0) j6 p6] p0)) pos) (sBegin i l) := by
  refine PS.mono (ps_ret (pe_disp (pps_cons pe_str (pe_var hN hv hd hcd) (pps_cons pe_str (⟨fun pins s σ H Q I ⟨D', h1, h2, hw⟩ => (hf D' h1 h2).run pins s σ H Q I hw⟩ : PE X e (fun σ H Q => ∃ D' : DC, D'.K = X.K ∧ D'.sx = D.sx ∧ RdF D' Wx l σ H Q)) (pps_cons pe_str pe_int (pps_cons pe_str pe_int pps_nil)))) rfl rfl (by simp) (by simp))) fun Q σ H h => ?_
  obtain ⟨ca, ms, r, h⟩ := h.inv
  unfold sBegin at h
  cases ex : ownAt ms.env i with
  | none => rw [ex] at h; exact h.elim
  | some x =>
    cases x with
    | fz w => rw [ex] at h; exact h.elim
    | pin w => rw [ex] at h; exact h.elim
    | od w => rw [ex] at h; exact h.elim
    | on w => rw [ex] at h; exact h.elim
    | ow xs0 =>
      rw [ex] at h
      refine fun p np => ?_
      obtain ⟨c, o, hσ, ⟨vs0, hc0, _⟩, _, _, hc0n⟩ := r.own_at ex
      refine ⟨.ref c, hσ, D.guard p (.dK []), hK, rfl, ca, ms, r.guard np nt_dK, ?_⟩
      have hp0 := r.h0_none np
      have hpc := r.not_ca0 np
      have un : ∀ ca' σ' H' ms', Rel (D.guard p (.dK [])) ca' σ' H' ms' → Rel D ca' σ' H' ms' := fun ca' σ' H' ms' r' => r'.unguard hp0 hpc
      have kp0 : Kp H (upd H p (.dK [])) := Kp.upd_new np
      have xx0 : Ext ca H ca (upd H p (.dK [])) := ⟨kp0, List.prefix_refl _⟩
      cases el : l ms with
      | bad => rw [el] at h; exact h.elim
      | err cn fs m =>
        rw [el] at h
        exact fun cls d σ' ca' H' x' rl er => h cls d σ' ca' H' (xx0.trans x') (un _ _ _ _ rl) er
      | ok ws ms1 =>
        rw [el] at h
        have h : Po D Wx σ ca H (match ownAt ms1.env i with
          | some (.ow xs) => match intsOf xs, intsOf ws with
            | some cs, some ls => .ok (.ret (hnd ms1.cells.length)) { env := ms1.env.map fun _ => none, cells := ms1.cells ++ [.draw cs ls 0 0] }
            | _, _ => .bad
          | _ => .bad) (FP D ca H Q) := h
        cases ex1 : ownAt ms1.env i with
        | none => rw [ex1] at h; exact h.elim
        | some x =>
          cases x with
          | fz w => rw [ex1] at h; exact h.elim
          | pin w => rw [ex1] at h; exact h.elim
          | od w => rw [ex1] at h; exact h.elim
          | on w => rw [ex1] at h; exact h.elim
          | ow xs =>
            rw [ex1] at h
            cases ei : intsOf xs with
            | none => simp only [ei] at h; exact h.elim
            | some cs =>
              cases ej : intsOf ws with
              | none => simp only [ei, ej] at h; exact h.elim
              | some ls =>
                simp only [ei, ej] at h
                refine fun q vs ca' H' x' rg nq pv => ?_
                have hpH := rg.at_guard hpc nt_dK
                have r0 := rg.ungrow hpc hp0 ⟨Mut_dK, .dK⟩
                have hqp : q ≠ p := fun z => by subst z; rw [hpH] at nq; cases nq
                obtain ⟨c', o', hσ', ⟨vs1, hc1, rv1⟩, _, _, hcn⟩ := r0.own_at ex1
                rw [hσ] at hσ'
                cases hσ'
                have hcp : c ≠ p := fun z => by subst z; rw [erase_same] at hc1; cases hc1
                have hc1' : H' c = some (.lst vs1) := by rw [erase_ne hcp] at hc1; exact hc1
                have hcq : c ≠ q := fun z => by subst z; rw [hc1'] at nq; cases nq
                obtain ⟨h2, h3⟩ := ownAt_some ex1
                have hcca := r0.oca i c (by rw [h2]; exact h3) hσ
                have npe : erase H' p p = none := erase_same
                have nqe : erase H' p q = none := by rw [erase_ne hqp]; exact nq
                have e1 := intsOf_rp rv1 ei
                have e2 := intsOf_rp pv ej
                subst e1
                subst e2
                have hup : ∀ kvs : List (Key × V), upd (upd H' q (.lst (ls.map V.int))) p (.dK kvs) = upd (upd (erase H' p) q (.lst (ls.map V.int))) p (.dK kvs) := fun kvs => by
                  funext b
                  by_cases hb : b = p
                  · subst hb; rw [upd_same, upd_same]
                  · rw [upd_ne hb, upd_ne hb]
                    by_cases hb2 : b = q
                    · subst hb2; rw [upd_same, upd_same]
                    · rw [upd_ne hb2, upd_ne hb2, erase_ne hb]
                refine ⟨by rw [upd_ne (Ne.symm hqp)]; exact hpH, [(Sum.inr "cells", .ref c), (Sum.inr "lefts", .ref q), (Sum.inr "at", .int 0), (Sum.inr "room", .int 0)], rfl, by simp, ?_⟩
                show Q.rt (.ref p) (upd (upd H' q (.lst (ls.map V.int))) p (.dK [(Sum.inr "cells", .ref c), (Sum.inr "lefts", .ref q), (Sum.inr "at", .int 0), (Sum.inr "room", .int 0)]))
                rw [hup]
                have g1 : Same (erase H' p) (upd (erase H' p) q (.lst (ls.map V.int))) := Same.upd_new nqe
                have npe2 : upd (erase H' p) q (.lst (ls.map V.int)) p = none := by rw [upd_ne (Ne.symm hqp)]; exact npe
                have g2 : Same (upd (erase H' p) q (.lst (ls.map V.int))) (upd (upd (erase H' p) q (.lst (ls.map V.int))) p (.dK [(Sum.inr "cells", .ref c), (Sum.inr "lefts", .ref q), (Sum.inr "at", .int 0), (Sum.inr "room", .int 0)])) := Same.upd_new npe2
                have r1 := (r0.grow g1).grow g2
                have fin := r1.newcell (as := [p, c, q]) (c := .draw cs ls 0 0) st (by simp [hqp, hcq, hcp, Ne.symm hcp, Ne.symm hqp]) (fun b hb => by
                    have e : b = p ∨ b = c ∨ b = q := by simpa using hb
                    rcases e with rfl | rfl | rfl
                    · exact r0.not_ca npe
                    · exact hcca
                    · exact r0.not_ca nqe) (fun b hb => by
                    have e : b = p ∨ b = c ∨ b = q := by simpa using hb
                    rcases e with rfl | rfl | rfl
                    · exact hp0
                    · exact hcn
                    · exact r0.h0_none nqe) (CellAt.draw_at upd_same (by rw [upd_ne hcp, upd_ne hcq]; exact hc1) (by rw [upd_ne hqp, upd_same]))
                have hl := r1.len
                rw [if_pos st] at hl
                have kk : Kp H (upd (upd (erase H' p) q (.lst (ls.map V.int))) p (.dK [(Sum.inr "cells", .ref c), (Sum.inr "lefts", .ref q), (Sum.inr "at", .int 0), (Sum.inr "room", .int 0)])) :=
                  kp0.trans (x'.kp.trans ((Kp.erase hpH Mut_dK).trans ((Kp.of_same g1).trans (.of_same g2))))
                refine h (.ref p) σ (ca' ++ [[p, c, q]]) _ ⟨kk, x'.pre.trans (List.prefix_append _ _)⟩ fin ?_
                unfold hnd
                simp only [Rp]
                refine .inl ⟨ms1.cells.length, p, [c, q], rfl, ?_, rfl⟩
                have hl : ms1.cells.length = ca'.length := hl
                rw [hl, List.getElem?_append_right (Nat.le_refl _), Nat.sub_self]
                rfl
end
end DL
namespace DL
open PySem PySem.Spec PyProof.Rows L2
theorem hu_of {k : Nat} {A : Around} (r : Room k A) : A.units + 65 < cLine := by have := r.un; omega
theorem hu64 {A : Around} (r : A.units + 65 < cLine) : A.units + 64 < cLine := by omega
theorem hu1 {A : Around} (r : A.units + 65 < cLine) : A.units + 1 < cLine := by omega
theorem DCall.or {D : DC} {X : Cx} {f : Value} {g g' : List W → Option W} (h : DCall D X f g) (h' : DCall D X f g') : DCall D X f (fun ws => (g ws).or (g' ws)) := fun pins s σ ca H xs us ws w Q I r p e q => by
  have e : (g ws).or (g' ws) = some w := e
  cases e1 : g ws with
  | some w' =>
    rw [e1] at e
    cases e
    exact h pins s σ ca H xs us ws w Q I r p e1 q
  | none =>
    rw [e1] at e
    exact h' pins s σ ca H xs us ws w Q I r p e q
theorem DCallF.or {D : DC} {X : Cx} {f : Value} {g g' : List W → Option (List W)} (h : DCallF D X f g) (h' : DCallF D X f g') : DCallF D X f (fun ws => (g ws).or (g' ws)) := fun pins s σ ca H xs us ws w Q I r p e q => by
  have e : (g ws).or (g' ws) = some w := e
  cases e1 : g ws with
  | some w' =>
    rw [e1] at e
    cases e
    exact h pins s σ ca H xs us ws w Q I r p e1 q
  | none =>
    rw [e1] at e
    exact h' pins s σ ca H xs us ws w Q I r p e q
def gListA (ws : List W) : Option (List W) := (gList ws).or (gKeys ws)
def gMinA (ws : List W) : Option W := (gMin2 ws).or (gMinL ws)
def eUn (g : W → Option W) (a : EM) : EM := fun m => (a m).bind fun x m => opt (g x) m
def gNeg : W → Option W
  | .int i => some (.int (-i))
  | _ => none
def sFrz (i : Nat) : SM := fun m => match ownAt m.env i with
  | some x => .ok .next { m with env := m.env.set i (some (.fz (frW x))) }
  | none => .ok .next m
section
variable {D : DC} {Wx : WX} {X : Cx} {e e2 : Expr} {me mf : EM} {mt : TM} {pos p : Pos} {st : Stmt} {rest : List Stmt} {m : SM} {i : Nat}
theorem dc_listA (hK : D.K = X.K) (hc : X.calm = true) : DCallF D X (.type "list") gListA := (dc_list hK).or (dc_keys hc)
theorem dc_minA (hK : D.K = X.K) (hc : X.calm = true) (hu : X.A.units + 65 < cLine) : DCall D X (.builtin "min") gMinA := (dc_min2 hc).or (dc_minL hK hc (hu64 hu))
theorem de_neg (h : DE D Wx X e me) : DE D Wx X (.UnaryOp .USub e pos) (eUn gNeg me) := PE.mono (pe_un un_neg h) fun σ H Q ⟨ca, ms, r, h⟩ => RdE.bind r h fun w v ms1 ca1 H1 x1 r1 p1 h1 => by
  obtain ⟨w', e, q⟩ := Po.opt h1
  cases w with
  | int i =>
    cases e
    exact ⟨i, p1.int, q _ ca1 H1 x1 r1 rp_int⟩
  | _ => cases e
theorem pss_maybe {sts : List Stmt} {t : TS} (h : PSs X sts t) : PSs X sts (fun Q σ H => (∃ d u, H d = some u ∧ Mut (some u) ∧ ∀ od, t Q σ (upd H d (.frz od u))) ∨ t Q σ H) :=
  ⟨fun pins s σ H Q I hw => by
    rcases hw with ⟨d, u, hd, mu, hw⟩ | hw
    · obtain ⟨od, I1⟩ := I.lock hd mu
      exact h.run pins s σ _ Q I1 (hw od)
    · exact h.run pins s σ H Q I hw⟩
theorem dss_frz (i : Nat) (h : DSs D Wx X rest m) : DSs D Wx X rest (sSeq (sFrz i) m) := PSs.mono (pss_maybe h) fun Q σ H h => by
  obtain ⟨ca, ms, r, h⟩ := h.inv
  unfold sSeq sFrz at h
  cases e : ownAt ms.env i with
  | none =>
    rw [e] at h
    exact .inr (RdS.of r h)
  | some x =>
    rw [e] at h
    obtain ⟨p, o, hσ, oa, ho, mu, h0⟩ := r.own_at e
    obtain ⟨h1, h2⟩ := ownAt_some e
    exact .inl ⟨p, o, ho, mu, fun od => RdS.of (r.freeze od h1 h2 hσ ho (ownAt_non e)) (Po.goS ⟨Kp.upd_mut ho mu, List.prefix_refl _⟩ h)⟩
theorem pts0 : PTs X [] (RdT D W0 tYesM) := ⟨fun pins s σ H Q I ⟨ca, ms, r, h⟩ => pts_nil.run pins s σ H Q I (h ca H (.refl _ _) r)⟩
def rgBd (a b : Int) : Bool := Nat.ble a.natAbs 1000000 && Nat.ble b.natAbs 1000000
def fRg1 (a : EM) : LM := fun m => (a m).bind fun x m => match x with
  | .int j => if rgBd 0 j = true then .ok (rngW 0 j.toNat) m else .bad
  | _ => .bad
def fRg2 (a b : EM) : LM := fun m => (a m).bind fun x m => (b m).bind fun y m => match x, y with
  | .int i, .int j => if rgBd i j = true then .ok (rngW i (j - i).toNat) m else .bad
  | _, _ => .bad
end
def Has (P : Program) (w : World) (K : PySem.W.Frag) (mg : Str → Option Value) (base : Heap) (k : Nat) (x : Str) (ps : List Str) (sp : Sp) : Prop :=
  ∃ fd, PySem.W.keepIn K (.ref (He.ga K x)) = true ∧ Binds K fd ps [] ∧ mg x = some (.ref (He.ga K x)) ∧ FnOk P w K mg base (L2.CX P w) k (He.ga K x) fd ps sp
section
variable {D : DC} {Wx : WX} {X : Cx} {k n : Nat} {ps : List Str} {st : Bool} {F : FM} {x : Str} {p pos : Pos} {e : Expr} {es : List Expr} {l : LM}
theorem de_fn {T : List (Addr × Str)} (h : Has X.prog X.w X.K X.mg X.base k x ps (callP X.K (st, T) F n)) (hr : Room k X.A) (hg : Gl X x) (tk : L2.Takes X Wx) (ha : DA D Wx X (e :: es) l) (hK : D.K = X.K) (hst : st = true → D.st = true) (hT : D.sx.2 = T) (hn : LQt n l)
    (hdb : (x == ("__debug__" : Str)) = false := by decide) (he : starEach (e :: es) X.env = (false, eval e X.env) :: starEach es X.env := by rfl) (hpl : (backTo pos (starEach es X.env)).any (·.1) = false := by rfl) :
    DE D Wx X (.Call (.Name x p) (e :: es) [] pos) (eCall st F [] l) := by
  obtain ⟨fd, hk, hb, hm, FO⟩ := h
  exact de_call FO hr hg hm hk hb .nil tk ha hK hst hT (fun ws m m' e => by simpa using hn ws m m' e) (fun ca H => by simp only [RpAll]) hdb he hpl
end
end DL
namespace DL
open PySem PySem.Spec PyProof.Rows L2
theorem bt_len : bootBuiltins "len" = some (.builtin "len") := by decide +kernel
theorem bt_min : bootBuiltins "min" = some (.builtin "min") := by decide +kernel
theorem bt_int : bootBuiltins "int" = some (.type "int") := by decide +kernel
theorem bt_list : bootBuiltins "list" = some (.type "list") := by decide +kernel
end DL
namespace DL
open PySem PySem.Spec PyProof.Rows L2
theorem cMul_ok {i j : Int} (h1 : 0 ≤ i) (h2 : i < 18446744073709551616) (h3 : 0 ≤ j) (h4 : j < 18446744073709551616) : cMul i j = true := by
  unfold cMul
  have a : i.natAbs.log2 < 64 := by
    by_cases h : i.natAbs = 0
    · rw [h]; decide
    · rw [Nat.log2_lt h]; omega
  have b : j.natAbs.log2 < 64 := by
    by_cases h : j.natAbs = 0
    · rw [h]; decide
    · rw [Nat.log2_lt h]; omega
  show Nat.ble _ _ = true
  exact Nat.ble_eq_true_of_le (by omega)
theorem gTimes_ok {i j : Int} (h1 : 0 ≤ i) (h2 : i < 18446744073709551616) (h3 : 0 ≤ j) (h4 : j < 18446744073709551616) : gTimes (.int i) (.int j) = some (.int (i * j)) := by
  have e : gMulI (.int i) (.int j) = some (.int (i * j)) := by
    show (if cMul i j = true then some (PyData.int (i * j)) else none) = _
    rw [if_pos (cMul_ok h1 h2 h3 h4)]
  unfold gTimes gMul
  rw [e]
  rfl
theorem gPlus_ok {i j : Int} : gPlus (.int i) (.int j) = some (.int (i + j)) := rfl
theorem gMod_ok {i j : Int} (h : 0 < j) : gModI (.int i) (.int j) = some (.int (i % j)) := by
  show (if cMod i j = true then some (PyData.int (i % j)) else none) = _
  rw [if_pos (by unfold cMod; simpa using h)]
theorem gDiv_ok {i j : Int} (h : 0 < j) (h2 : j < 18446744073709551616) : gDivI (.int i) (.int j) = some (.int (i / j)) := by
  show (if cDiv i j = true then some (PyData.int (i / j)) else none) = _
  rw [if_pos ?_]
  unfold cDiv
  rw [Bool.and_eq_true]
  refine ⟨by simpa using h, ?_⟩
  have b : j.natAbs.log2 < 64 := by
    rw [Nat.log2_lt (by omega)]; omega
  exact Nat.ble_eq_true_of_le (by omega)
theorem eBin_ok {g : W → W → Option W} {a b : EM} {m m1 m2 : MS} {x y w : W} (ha : a m = .ok x m1) (hb : b m1 = .ok y m2) (hg : g x y = some w) : eBin g a b m = .ok w m2 := by
  unfold eBin
  rw [ha]
  show (b m1).bind _ = _
  rw [hb]
  show opt (g x y) m2 = _
  rw [hg]
  rfl
theorem sSeq_next {a b : SM} {m m1 : MS} (h : a m = .ok .next m1) : sSeq a b m = b m1 := by
  unfold sSeq
  rw [h]
  rfl
theorem sSeq_ret {a b : SM} {m m1 : MS} {w : W} (h : a m = .ok (.ret w) m1) : sSeq a b m = .ok (.ret w) m1 := by
  unfold sSeq
  rw [h]
  rfl
theorem sSet_ok {i : Nat} {a : EM} {m m1 : MS} {w : W} (h : a m = .ok w m1) : sSet i (vFz a) m = .ok .next { m1 with env := m1.env.set i (some (.fz w)) } := by
  unfold sSet vFz
  rw [h]
  rfl
theorem sRet_ok {a : EM} {m m1 : MS} {w : W} (h : a m = .ok w m1) : sRet a m = .ok (.ret w) m1 := by
  unfold sRet
  rw [h]
  rfl
theorem sIf_t {t : TM} {a b : SM} {m m1 : MS} (h : t m = .ok true m1) : sIf t a b m = a m1 := by
  unfold sIf
  rw [h]
  rfl
theorem sIf_f {t : TM} {a b : SM} {m m1 : MS} (h : t m = .ok false m1) : sIf t a b m = b m1 := by
  unfold sIf
  rw [h]
  rfl
theorem tVal_ok {a : EM} {m m1 : MS} {b : Bool} (h : a m = .ok (.bool b) m1) : tVal a m = .ok b m1 := by
  unfold tVal
  rw [h]
  rfl
theorem aCons_ok {a : EM} {r : LM} {m m1 m2 : MS} {w : W} {ws : List W} (h : a m = .ok w m1) (h2 : r m1 = .ok ws m2) : aCons a r m = .ok (w :: ws) m2 := by
  unfold aCons
  rw [h]
  show (r m1).bind _ = _
  rw [h2]
  rfl
theorem eVar_ok {i : Nat} {m : MS} {w : W} (h : m.env[i]? = some (some (.fz w))) : eVar i m = .ok w m := by
  unfold eVar
  rw [h]
theorem eC_ok {w : W} {m : MS} : eC w m = .ok w m := rfl
theorem aNil_ok {m : MS} : aNil m = .ok [] m := rfl
theorem eOf_ok {g : List W → Option W} {l : LM} {m m1 : MS} {ws : List W} {w : W} (h : l m = .ok ws m1) (h2 : g ws = some w) : eOf g l m = .ok w m1 := by
  unfold eOf
  rw [h]
  show opt (g ws) m1 = _
  rw [h2]
  rfl
theorem eCall_okF {F : FM} {l : LM} {m m1 m2 : MS} {ws : List W} {w : W} (h : l m = .ok ws m1) (h2 : F ws [] = .ok w m2) : eCall false F [] l m = .ok w m1 := by
  unfold eCall
  rw [h]
  show (match F (ws ++ []) [] with
    | .ok w m' => R.ok w { m1 with cells := m1.cells }
    | .err c fs m' => .err c fs { m1 with cells := m1.cells }
    | .bad => .bad) = _
  rw [List.append_nil, h2]
theorem runB_ret {n : Nat} {b : SM} {ws : List W} {cs : List Cell} {w : W} {m : MS} (h : b ⟨ws.map (fun w => some (.fz w)) ++ List.replicate (n - ws.length) none, cs⟩ = .ok (.ret w) m) : runB n b ws cs = .ok w ⟨[], m.cells⟩ := by
  unfold runB
  rw [h]
theorem hndOf_hnd (k : Nat) : hndOf (hnd k) = some k := by
  unfold hndOf hnd
  simp
theorem cellAt_eq {m : MS} {i k : Nat} {cs ls : List Int} {a r : Int} (h1 : m.env[i]? = some (some (.fz (hnd k)))) (h2 : m.cells[k]? = some (.draw cs ls a r)) : cellAt m i = some (k, cs, ls, a, r) := by
  unfold cellAt
  rw [h1]
  simp only [hndOf_hnd]
  rw [h2]
theorem ixN_ok {n : Nat} {i : Int} (h0 : 0 ≤ i) (h1 : i < n) : ixN n i = some i.toNat := by
  unfold ixN
  rw [if_pos h0, if_pos h1]
theorem atI_ok {xs : List Int} {i : Int} (h0 : 0 ≤ i) (h1 : i < xs.length) : ∃ x, atI xs i = some x := by
  unfold atI
  rw [ixN_ok h0 h1]
  exact ⟨xs[i.toNat]'(by omega), List.getElem?_eq_getElem (by omega)⟩
theorem eCAt_ok {m : MS} {i k : Nat} {cs ls : List Int} {a r : Int} (h : cellAt m i = some (k, cs, ls, a, r)) : eCAt i m = .ok (.int a) m := by
  unfold eCAt
  rw [h]
theorem eCLen_ok {m : MS} {i k : Nat} {cs ls : List Int} {a r : Int} (h : cellAt m i = some (k, cs, ls, a, r)) : eCLen i m = .ok (.int cs.length) m := by
  unfold eCLen
  rw [h]
theorem eCCell_ok {m : MS} {i k : Nat} {cs ls : List Int} {a r t x : Int} {e : EM} (h : cellAt m i = some (k, cs, ls, a, r)) (he : e m = .ok (.int t) m) (hx : atI cs t = some x) : eCCell i e m = .ok (.int x) m := by
  unfold eCCell
  rw [h]
  simp only [he, R.bind, h, hx]
theorem eCLeft_ok {m : MS} {i k : Nat} {cs ls : List Int} {a r t x : Int} {e : EM} (h : cellAt m i = some (k, cs, ls, a, r)) (he : e m = .ok (.int t) m) (hx : atI ls t = some x) : eCLeft i e m = .ok (.int x) m := by
  unfold eCLeft
  rw [h]
  simp only [he, R.bind, h, hx]
theorem sCAt_ok {m : MS} {i k : Nat} {cs ls : List Int} {a r x : Int} {e : EM} (he : e m = .ok (.int x) m) (h : cellAt m i = some (k, cs, ls, a, r)) : sCAt i e m = .ok .next { m with cells := m.cells.set k (.draw cs ls x r) } := by
  unfold sCAt
  simp only [he, R.bind, h]
theorem sCLeft_ok {m : MS} {i k j : Nat} {cs ls : List Int} {a r x t : Int} {e b : EM} (he : e m = .ok (.int x) m) (hb : b m = .ok (.int t) m) (h : cellAt m i = some (k, cs, ls, a, r)) (hj : ixN ls.length t = some j) : sCLeft i b e m = .ok .next { m with cells := m.cells.set k (.draw cs (ls.set j x) a r) } := by
  unfold sCLeft
  simp only [he, R.bind, h, hb, hj]
theorem intsOf_map : ∀ ns : List Int, intsOf (ns.map PyData.int) = some ns
  | [] => rfl
  | n :: ns => by
    show (intsOf (ns.map PyData.int)).map (n :: ·) = _
    rw [intsOf_map ns]
    rfl
end DL
namespace DL
open PySem PySem.Spec PyProof.Rows L2
def relW : W → Value → Bool
  | .none, .none => true
  | .bool b, .bool c => b == c
  | .int i, .int j _ => decide (i = j)
  | .str x, .str y _ => decide (x = y)
  | _, _ => false
def flatV : W → V
  | .bool b => .bl b
  | .int i => .int i
  | .str x => .str x
  | _ => .non
theorem relW_ok {w : W} {u : Value} (h : relW w u = true) : RelV (flatV w) u ∧ ∀ K ca H, Rp K ca H w (flatV w) := by
  cases w with
  | none => cases u with
    | none => exact ⟨rfl, fun _ _ _ => by simp only [Rp]; rfl⟩
    | _ => cases h
  | bool b => cases u with
    | bool c =>
      have e : b = c := eq_of_beq (show (b == c) = true from h)
      subst e
      exact ⟨rfl, fun _ _ _ => by simp only [Rp]; rfl⟩
    | _ => cases h
  | int i => cases u with
    | int j t =>
      have e : i = j := of_decide_eq_true h
      subst e
      exact ⟨⟨t, rfl⟩, fun _ _ _ => by simp only [Rp]; rfl⟩
    | _ => cases h
  | str x => cases u with
    | str y t =>
      have e : x = y := of_decide_eq_true h
      subst e
      exact ⟨⟨t, rfl⟩, fun _ _ _ => by simp only [Rp]; rfl⟩
    | _ => cases h
  | list _ => cases u <;> cases h
  | tuple _ => cases u <;> cases h
  | dict _ => cases u <;> cases h
def relTab : List DictEntry → List (Str × W) → Bool
  | [], [] => true
  | e :: es, q :: r => relW q.2 e.val && relTab es r
  | _, _ => false
def tabB (K : PySem.W.Frag) (a : Addr) (tab : List (Str × W)) : Bool := match K.lookup a with
  | some ⟨_, _, .dict es _, _⟩ => relTab es.toList tab
  | _ => false
theorem tab_find {P : Params} (z : Str) : ∀ {es : List DictEntry} {tab : List (Str × W)}, es.map He.keyOf = He.keysIn P (tab.map Prod.fst) → relTab es tab = true →
    (es.find? (fun e => e.key.isStr z) = none ∧ es.any (fun e => e.refKey) = false ∧ tab.lookup z = none) ∨ ∃ e v wv, es.find? (fun e => e.key.isStr z) = some e ∧ RelV v e.val ∧ tab.lookup z = some wv ∧ ∀ K ca H, Rp K ca H wv v
  | [], [], _, _ => .inl ⟨rfl, rfl, rfl⟩
  | [], _ :: _, _, h => by cases h
  | _ :: _, [], _, h => by cases h
  | e :: es, (k, w) :: r, h1, h2 => by
    obtain ⟨c1, c2⟩ := He.ba (show (relW w e.val && relTab es r) = true from h2)
    have h3 : He.keyOf e :: es.map He.keyOf = some (k, PyData.keyHash P k) :: He.keysIn P (r.map Prod.fst) := h1
    injection h3 with h4 h5
    have hk : ∃ t, e.key = .str k t := by
      unfold He.keyOf at h4
      split at h4
      · rename_i x t q
        have e1 := Option.some.inj h4
        obtain ⟨e2, e3⟩ := Prod.mk.inj e1
        exact ⟨t, by rw [q, e2]⟩
      · cases h4
    obtain ⟨t, hk⟩ := hk
    have hi : e.key.isStr z = decide (k = z) := by rw [hk]; rfl
    by_cases hz : k = z
    · subst hz
      obtain ⟨r1, r2⟩ := relW_ok c1
      refine .inr ⟨e, flatV w, w, ?_, r1, ?_, r2⟩
      · rw [List.find?_cons, hi]
        simp
      · simp [List.lookup]
    · rcases tab_find z h5 c2 with ⟨f1, f2, f3⟩ | ⟨e', v, wv, f1, f2, f3, f4⟩
      · refine .inl ⟨?_, ?_, ?_⟩
        · rw [List.find?_cons, hi, decide_eq_false hz]
          exact f1
        · rw [List.any_cons, f2]
          unfold DictEntry.refKey
          rw [hk]
          rfl
        · have : (z == k) = false := by simpa using fun h => hz h.symm
          simp only [List.lookup, this]
          exact f3
      · refine .inr ⟨e', v, wv, ?_, f2, ?_, f4⟩
        · rw [List.find?_cons, hi, decide_eq_false hz]
          exact f1
        · have : (z == k) = false := by simpa using fun h => hz h.symm
          simp only [List.lookup, this]
          exact f3
theorem ktab_of {K : PySem.W.Frag} {w : World} {a : Addr} {tab : List (Str × W)} (h : He.dicW K a = some (He.keysIn w.params (tab.map Prod.fst))) (h2 : tabB K a tab = true) : KTab K w a tab := by
  obtain ⟨es, n, hd⟩ := He.dicW_ok h
  refine ⟨hd.low, ⟨es, n, hd.at_, hd.lit⟩, fun z => ?_⟩
  have hm : es.toList.map He.keyOf = He.keysIn w.params (tab.map Prod.fst) := by
    unfold He.dicW at h
    rw [hd.at_] at h
    have h1 : (match decide ("dict" = "dict") && ((#[] : Array (Option Value)).isEmpty && !(a == sysModules)) with
      | true => some (es.toList.map He.keyOf)
      | false => none) = some (He.keysIn w.params (tab.map Prod.fst)) := h
    rw [hd.low] at h1
    exact Option.some.inj h1
  have hr : relTab es.toList tab = true := by
    unfold tabB at h2
    rw [hd.at_] at h2
    exact h2
  unfold PySem.W.nsIn
  rw [hd.at_]
  show ((match es.toList.find? (fun e => e.key.isStr z) with
    | some e => some (some e.val)
    | none => if es.toList.any (fun e => e.refKey) then none else some none) = some none ∧ _) ∨ _
  rcases tab_find z hm hr with ⟨f1, f2, f3⟩ | ⟨e, v, wv, f1, f2, f3, f4⟩
  · left
    rw [f1]
    refine ⟨?_, f3⟩
    show (if es.toList.any (fun e => e.refKey) then none else some none) = _
    rw [f2]
    rfl
  · right
    refine ⟨e.val, v, wv, ?_, f2, f3, f4 K⟩
    show (match es.toList.find? (fun e => e.key.isStr z) with
      | some e => some (some e.val)
      | none => if es.toList.any (fun e => e.refKey) then none else some none) = _
    rw [f1]
abbrev Tb : Type := Str × List (Str × W)
def tabsOf (ts : List Tb) : List He.Tab := ts.map fun t => (fun K => He.ga K t.1, t.2.map Prod.fst)
abbrev AlW : Type := He.AlT × Bool
def obsW (fa : List He.Fa) (fn : List He.DefD) (ts : List Tb) (K : PySem.W.Frag) : AlW := (He.obsT fa fn (tabsOf ts) K, ts.all fun t => tabB K (He.ga K t.1) t.2)
def valW (fn : List He.DefD) (ts : List Tb) (w : World) : AlW := (He.valT fn (tabsOf ts) w, true)
def SaysW (fa : List He.Fa) (fn : List He.DefD) (ts : List Tb) (w : World) (K : PySem.W.Frag) : Prop := obsW fa fn ts K = valW fn ts w
section
variable {fa : List He.Fa} {fn : List He.DefD} {ts : List Tb} {w : World} {K : PySem.W.Frag}
theorem SaysW.t (c : SaysW fa fn ts w K) : He.SaysT fa fn (tabsOf ts) w K := congrArg (fun z : AlW => z.1) c
theorem SaysW.d (c : SaysW fa fn ts w K) : He.SaysD fa fn K := c.t.d
theorem SaysW.tab (c : SaysW fa fn ts w K) (i : Nat) {T : Str} {tab : List (Str × W)} (h : ts[i]? = some (T, tab) := by rfl) : KTab K w (He.ga K T) tab := by
  have e : (tabsOf ts).map (fun t => He.dicW K (t.1 K)) = (tabsOf ts).map fun t => some (He.keysIn w.params t.2) := congrArg (fun z : He.AlT => z.2) c.t
  have e2 : ((tabsOf ts).map fun t => He.dicW K (t.1 K))[i]? = ((tabsOf ts).map fun t => some (He.keysIn w.params t.2))[i]? := by rw [e]
  unfold tabsOf at e2
  rw [List.getElem?_map, List.getElem?_map, List.getElem?_map, List.getElem?_map, h] at e2
  have e3 : (ts.all fun t => tabB K (He.ga K t.1) t.2) = true := congrArg (fun z : AlW => z.2) c
  exact ktab_of (Option.some.inj e2) (List.all_eq_true.mp e3 _ (List.mem_of_getElem? h))
end
theorem rel_zero {K : PySem.W.Frag} {H : Hp} {T : List (Addr × Str)} (h : LamX.Tabs T H) : Rel (cb K H [] (true, T)) [] [] H ⟨[], []⟩ :=
  ⟨rfl, fun k c as e => by simp at e, List.nodup_nil, List.prefix_refl _, fun _ _ e _ _ => untab_of e, fun b hb => by simp at hb, rfl, fun i x e => by simp at e, fun i j v _ e => by simp [Sl.isOwn] at e, fun b hb => by simp [cb] at hb, fun i p e => by simp [Sl.isOwn] at e, h, fun b ps e => untab_tbl e⟩
end DL
namespace DL
open PySem PySem.Spec PyProof.Rows L2
section
variable {X : Cx} {pins : List (Addr × Obj)} {σ : L2.St} {H : Hp} {s : Shared} {ca : CA}
mutual
theorem nested_of {K : PySem.W.Frag} (I : Inv X pins σ H s) (hK : K = X.K) : ∀ (x : W) {k : NestedKey} {v : V} {u : Value}, nkey x = some k → Rp K ca H x v → RelV v u → NestedIs s.heap k u
  | .none, k, v, u, h, r, e => by
    cases h
    simp only [Rp] at r
    subst r
    cases e
    exact .none
  | .bool _, k, v, u, h, r, e => by cases h
  | .int i, k, v, u, h, r, e => by
    cases h
    simp only [Rp] at r
    subst r
    obtain ⟨t, rfl⟩ := e
    exact .int _ _
  | .str _, k, v, u, h, r, e => by cases h
  | .list _, k, v, u, h, r, e => by cases h
  | .dict _, k, v, u, h, r, e => by cases h
  | .tuple xs, k, v, u, h, r, e => by
    simp only [nkey, Option.map_eq_some_iff] at h
    obtain ⟨ks, h, rfl⟩ := h
    simp only [Rp] at r
    obtain ⟨a, vs, rfl, f, ra⟩ := r
    cases e
    rcases f with ⟨o', f, _⟩ | ⟨o, its, n, f1, f2, f0, f3, f4, f5⟩
    · obtain ⟨_, _, its, rv, o, ho, hc, n, hd⟩ := I.hok a _ f
      exact .tup ho hc hd (by simpa using nesteds_of I hK xs h ra rv)
    · rw [hK] at f1
      exact .tup (I.kIn _ _ f1) f2 f3 (nesteds_of I hK xs h ra f5)
theorem nesteds_of {K : PySem.W.Frag} (I : Inv X pins σ H s) (hK : K = X.K) : ∀ (xs : List W) {ks : List NestedKey} {vs : List V} {us : List Value}, nkeys xs = some ks → RpAll K ca H xs vs → Vals vs us → NestedAll s.heap ks us
  | [], ks, vs, us, h, r, e => by
    cases h
    simp only [RpAll] at r
    subst r
    cases e
    exact .nil
  | x :: xs, ks, vs, us, h, r, e => by
    simp only [nkeys] at h
    cases e1 : nkey x with
    | none => rw [e1] at h; cases h
    | some k =>
      cases e2 : nkeys xs with
      | none => rw [e1, e2] at h; cases h
      | some l =>
        rw [e1, e2] at h
        cases h
        simp only [RpAll] at r
        obtain ⟨v, t, rfl, r1, r2⟩ := r
        cases e with
        | cons q1 q2 => exact .cons (nested_of I hK x e1 r1 q1) (nesteds_of I hK xs e2 r2 q2)
end
theorem rpn_is {K : PySem.W.Frag} (I : Inv X pins σ H s) (hK : K = X.K) : ∀ {kvs : List (W × W)} {xs : List NE}, RpN K ca H kvs xs → ∀ x ∈ xs, (nestedKind X.prog X.w).is s.heap x.1 x.2.1 ∧ nhash x.1 = NestedKey.hash X.w x.1
  | [], xs, h => by
    simp only [RpN] at h
    subst h
    intro x hx
    cases hx
  | (k, y) :: r, xs, h => by
    simp only [RpN] at h
    obtain ⟨q, b, u, v, t, rfl, h1, h2, h3, h4, h5, h6⟩ := h
    intro x hx
    rcases List.mem_cons.mp hx with rfl | hx
    · exact ⟨⟨nested_of I hK _ h1 h3 rfl, h2⟩, (nhash_eq X.w _ h1).symm⟩
    · exact rpn_is I hK h6 x hx
theorem dict_of {K : PySem.W.Frag} {p : Addr} {kvs : List (W × W)} {xs : List NE} (I : Inv X pins σ H s) (hK : K = X.K) (hp : H p = some (DX p xs)) (nd : (xs.map (·.1)).Nodup) (r : RpN K ca H kvs xs) : s.heap.DictOfH (nestedKind X.prog X.w) p xs := by
  obtain ⟨⟨o, es, ep, h1, h2, h3, h4⟩, _, _⟩ := I.hok p _ hp
  have hi := rpn_is I hK r
  refine ⟨o, es, ep, h1, h2, h3, ?_, fun x hx => (hi x hx).1, nd⟩
  rw [h4]
  refine List.map_congr_left fun x hx => ?_
  show (⟨nhash x.1, .ref x.2.1, x.2.2⟩ : DictEntry) = ⟨NestedKey.hash X.w x.1, .ref x.2.1, x.2.2⟩
  rw [(hi x hx).2]
end
def keqN (a b : W) : Bool := match nkey a, nkey b with
  | some x, some y => NestedKey.beq x y
  | _, _ => false
def hasN : List (W × W) → W → Bool
  | [], _ => false
  | (k, _) :: r, q => keqN k q || hasN r q
def replN : List (W × W) → W → W → List (W × W)
  | [], _, _ => []
  | (k, x) :: r, q, y => (if keqN k q = true then (k, y) else (k, x)) :: replN r q y
def putN (kvs : List (W × W)) (k v : W) : List (W × W) := if hasN kvs k = true then replN kvs k v else kvs ++ [(k, v)]
section
variable {K : PySem.W.Frag} {ca : CA} {H : Hp}
theorem keqN_eq {a b : W} {x y : NestedKey} (h1 : nkey a = some x) (h2 : nkey b = some y) : keqN a b = decide (x = y) := by
  unfold keqN
  rw [h1, h2, NestedKey.decide_eq]
theorem RpN.length : ∀ {kvs : List (W × W)} {xs : List NE}, RpN K ca H kvs xs → xs.length = kvs.length
  | [], xs, h => by
    simp only [RpN] at h
    subst h
    rfl
  | (k, y) :: r, xs, h => by
    simp only [RpN] at h
    obtain ⟨q, b, u, v, t, rfl, h1, h2, h3, h4, h5, h6⟩ := h
    simp [RpN.length h6]
theorem RpN.hash (w : World) : ∀ {kvs : List (W × W)} {xs : List NE}, RpN K ca H kvs xs → ∀ x ∈ xs, nhash x.1 = NestedKey.hash w x.1
  | [], xs, h => by
    simp only [RpN] at h
    subst h
    intro x hx
    cases hx
  | (k, y) :: r, xs, h => by
    simp only [RpN] at h
    obtain ⟨q, b, u, v, t, rfl, h1, h2, h3, h4, h5, h6⟩ := h
    intro x hx
    rcases List.mem_cons.mp hx with rfl | hx
    · exact (nhash_eq w _ h1).symm
    · exact RpN.hash w h6 x hx
end
section
variable {D : DC} {Wx : WX} {X : Cx} {e : Expr} {me : EM} {i : Nat} {x : Str} {ppos pos : Pos}
def ownN (env : List (Option Sl)) (i : Nat) : Option (List (W × W)) := match env[i]? with
  | some (some (.on kvs)) => some kvs
  | _ => none
def nOk (k : W) : Bool := match k, nkey k with
  | .tuple _, some q => Nat.ble q.depth 8
  | _, _ => false
/-- own[k] = v, k a tuple -/
def gSetN (i : Nat) (a : EM) : GM := fun w m => match ownN m.env i with
  | some _ => match a m with
    | .ok k m => match ownN m.env i with
      | some kvs => if (nOk k && szOk (kvs.length + 1)) = true then .ok () { m with env := m.env.set i (some (.on (putN kvs k w))) } else .bad
      | none => .bad
    | _ => .bad
  | none => .bad
end
end DL
namespace DL
def mIn {α : Type} (le : α → α → Bool) (x : α) (xs : List α) (f : List α → List α) : List α → List α
  | [] => x :: xs
  | y :: ys => if le x y = true then x :: f (y :: ys) else y :: mIn le x xs f ys
def mrgK {α : Type} (le : α → α → Bool) : List α → List α → List α
  | [] => fun ys => ys
  | x :: xs => mIn le x xs (mrgK le xs)
def msK {α : Type} (le : α → α → Bool) : Nat → List α → List α
  | 0, l => l
  | _ + 1, [] => []
  | _ + 1, [a] => [a]
  | n + 1, a :: b :: xs => mrgK le (msK le n ((a :: b :: xs).take ((xs.length + 3) / 2))) (msK le n ((a :: b :: xs).drop ((xs.length + 3) / 2)))
/-- sorted by an order, as the kernel runs it -/
def srtK {α : Type} (xs : List α) (le : α → α → Bool) : List α := msK le xs.length xs
end DL
namespace DL
open PySem PySem.Spec PyProof.Rows L2
section
open PySem.W
def isTup1 : W → Bool
  | .tuple (_ :: _) => true
  | _ => false
def notTN : W → Bool
  | .none => false
  | .tuple _ => false
  | _ => true
def sortOk (xs : List W) : Bool := xs.all (fun a => xs.all fun b => alike a b) && (xs.all isTup1 || xs.all notTN) && xs.all (fun x => x.canLay0 && Nat.ble x.depth 60) && szOk xs.length
def sortW (xs : List W) : List W := srtK xs (dataLe false id)
variable {D : DC} {Wx : WX} {X : Cx}
end
theorem RpN.keys {K : PySem.W.Frag} {ca : CA} {H : Hp} : ∀ {kvs : List (W × W)} {xs : List NE}, RpN K ca H kvs xs → RpAll K ca H (keysW kvs) (xs.map fun x => V.ref x.2.1)
  | [], xs, h => by simp only [RpN] at h; subst h; simp [keysW, RpAll]
  | (k, y) :: r, xs, h => by
    simp only [RpN] at h
    obtain ⟨q, b, u, v, t, rfl, h1, h2, h3, h4, h5, h6⟩ := h
    simp only [keysW, List.map_cons, RpAll]
    exact ⟨_, _, rfl, h3, RpN.keys h6⟩
end DL
namespace DL
open PySem PySem.Spec PyProof.Rows L2
end DL
namespace DL
open PySem PySem.Spec PyProof.Rows L2
section
variable {D : DC} {Wx : WX} {X : Cx} {i : Nat} {x : Str} {p ppos pos : Pos}
/-- sorted(x), x an own dict of tuple keys -/
def fSortN (i : Nat) : LM := fun m => match ownN m.env i with
  | some kvs => if sortOk (keysW kvs) = true then .ok (sortW (keysW kvs)) m else .bad
  | none => .bad
end
end DL
namespace DL
open PySem PySem.Spec PyProof.Rows L2
end DL
namespace DL
open PySem PySem.Spec PyProof.Rows L2
def noPin (env : List (Option Sl)) (i : Nat) : Bool := env.all fun x => match x with
  | some (.pin k) => k != i
  | _ => true
def isPin (env : List (Option Sl)) (i : Nat) : Bool := match env[i]? with
  | some (some (.pin k)) => k == i
  | _ => false
end DL
namespace DL
open PySem PySem.Spec PyProof.Rows L2
/-- for tg in x: .., x an own dict of tuple keys that lives on -/
def sForN (i : Nat) (g : GM) (body : SM) : SM := fun m => match ownN m.env i with
  | some kvs => if noPin m.env i = true then (match forGo g body (keysW kvs) { m with env := m.env.set i (some (.pin i)) } with
    | .ok f m' => if (isPin m'.env i && noPin (m'.env.set i none) i) = true then .ok f { m' with env := m'.env.set i (some (.on kvs)) } else .bad
    | _ => .bad) else .bad
  | none => .bad
end DL
namespace DL
open PySem PySem.Spec PyProof.Rows L2
def pairsW : List W → Option (List (W × W))
  | [] => some []
  | .tuple [k, v] :: r => if (toKey k).isSome = true then (pairsW r).map ((k, v) :: ·) else none
  | _ :: _ => none
section
variable {D : DC} {Wx : WX} {X : Cx} {e : Expr} {l : LM} {p pos : Pos}
def kDict (l : LM) : KM := fun m => (l m).bind fun ws m => match ws with
  | [.list xs] => match pairsW xs with
    | some kvs => .ok (mergeW [] kvs) m
    | none => .bad
  | _ => .bad
def pairsN : List W → Option (List (W × W))
  | [] => some []
  | .tuple [k, v] :: r => if nOk k = true then (pairsN r).map ((k, v) :: ·) else none
  | _ :: _ => none
def mergeN (kvs : List (W × W)) : List (W × W) → List (W × W)
  | [] => kvs
  | (k, v) :: r => mergeN (putN kvs k v) r
end
section
variable {D : DC} {Wx : WX} {X : Cx} {e : Expr} {l : LM} {p pos : Pos}
def kDictN (l : LM) : KM := fun m => (l m).bind fun ws m => match ws with
  | [.list xs] => match pairsN xs with
    | some kvs => .ok (mergeN [] kvs) m
    | none => .bad
  | _ => .bad
end
end DL
namespace DL
open PySem PySem.Spec PyProof.Rows L2
end DL
namespace DL
open PySem PySem.Spec PyProof.Rows L2
def kcompGo2 (g : GM) (t : TM) (it1 : LM) (g1 : GM) (t1 : TM) (ek el : EM) (vs1 : List Nat) (env0 : List (Option Sl)) : List W → List (W × W) → List Cell → Option (List (W × W) × List Cell)
  | [], acc, cs => some (acc, cs)
  | x :: xs, acc, cs => match g x ⟨env0, cs⟩ with
    | .ok _ m2 => match t m2 with
      | .ok true m3 => match it1 m3 with
        | .ok ys m4 => match kcompGo g1 t1 ek el (wipeE m4.env vs1) ys acc m4.cells with
          | some (acc', cs1) => kcompGo2 g t it1 g1 t1 ek el vs1 env0 xs acc' cs1
          | none => none
        | _ => none
      | .ok false m3 => kcompGo2 g t it1 g1 t1 ek el vs1 env0 xs acc m3.cells
      | _ => none
    | _ => none
def kComp2 (it : LM) (g : GM) (t : TM) (it1 : LM) (g1 : GM) (t1 : TM) (ek el : EM) (vs1 own : List Nat) : KM := fun m => (it m).bind fun xs m => if ownFree m.env own = false then .bad else match kcompGo2 g t it1 g1 t1 ek el vs1 (wipeE m.env own) xs [] m.cells with
  | some (ys, cs) => .ok ys { m with cells := cs }
  | none => .bad
end DL
namespace DL
open PySem PySem.Spec PyProof.Rows L2
def idxK (k : NestedKey) : List NestedKey → Option Nat
  | [] => none
  | x :: xs => if NestedKey.beq x k = true then some 0 else (idxK k xs).map (· + 1)
def idxN (ws : List W) (w : W) : Option W := match nkeys ws, nkey w with
  | some ks, some k => if Nat.ble k.depth 8 = true then (idxK k ks).map fun j => .int (j : Nat) else none
  | _, _ => none
section
variable {D : DC} {Wx : WX} {X : Cx} {o e : Expr} {mo me : EM} {apos cpos : Pos}
def eIdx (a b : EM) : EM := fun m => (a m).bind fun x m => match itemsOf x with
  | some ws => (b m).bind fun y m => opt (idxN ws y) m
  | none => .bad
end
end DL
namespace DL
open PySem PySem.Spec PyProof.Rows L2
section
variable {D : DC} {Wx : WX} {X : Cx} {e e2 : Expr} {me mf : EM} {p pos p1 p2 : Pos}
def eTr1 (a : EM) : EM := fun m => (fRg1 a m).bind fun xs m => .ok (.tuple xs) m
end
end DL
namespace DL
open PySem PySem.Spec PyProof.Rows L2
end DL
namespace DL
open PySem PySem.Spec PyProof.Rows L2
section
variable {X : Cx} {pins : List (Addr × Obj)} {σ : L2.St} {H : Hp} {s : Shared} {a C : Addr}
theorem exo_put {a C : Addr} {H : Hp} (e : H a = some (exo a C none)) : upd H a (exo a C none) = H := by
  funext b
  by_cases hb : b = a
  · rw [hb, upd_same, e]
  · rw [upd_ne hb]
theorem obw_ok {u : Addr} {us : List Value} {Q : Value → Shared → Prop} {E : Value → Shared → Prop} {A : Around} (T : OexC X.K C) (I : Inv X pins σ H s) (e : H a = some (exo a C none)) (hu : s.heap.get? u = some (PySem.W.kxs_mw "ValueError.__init__" a)) (hl : us.length ≤ sizeLine) (h : ∀ s', Inv X pins σ H s' → Q .none s') :
    wpAny (model X.prog X.w) A (call (.ref u) us) Q E s := by
  obtain ⟨nm, q, N, bs, bm, sn, sub, ab, col, dd, k0, k1, k2, k3, k5, hC, hbm⟩ := T.cls
  obtain ⟨t1, ho⟩ := exo_at I.hok e
  have KI := I.kIn
  obtain ⟨hp, g, d, t, os⟩ := s
  refine wpAny_call (codeAny_of_tree ?_)
  show wpAny _ A.in1 (callAny (.ref u) ⟨us, []⟩) _ _ _
  simp only [callAny]
  refine wpAny_bind (wpAny_load hu ?_)
  simp only [PySem.W.kxs_mw, show (Value.type "method-wrapper" == Value.type "method" || Value.type "method-wrapper" == Value.type "builtin_function_or_method" || Value.type "method-wrapper" == Value.type "method-wrapper") = true by decide, if_true]
  refine PySem.W.KFB.if_so (by decide) ?_
  refine wpAny_bind (PySem.W.check_bound_init F.excBase_ValueError.toExcCallFacts (KI _ _ hC) ho rfl ?_)
  refine wpAny_bind (wpAny_pure (wpAny_pure ?_))
  refine ⟨plainId_quiet F.excBase_ValueError.init.plain _, codeAny_builtin F.excBase_ValueError.initEntry ?_⟩
  refine PySem.W.exc_init_tree (cls := .ref C) (t0 := t1) (dv := none) (c2 := .none) (c3 := .none) (b4 := .bool false) ho hl fun h' k hx _ => ?_
  have J := I.write (t' := t) (x := a) (e := a) (o := exo a C none) (by rw [e]; exact True.intro) (.inl rfl) k ⟨_, hx⟩ (exo_ok hx)
  rw [exo_put e] at J
  exact h _ J
/-- what the written part says of such a class, and of its __init__ -/
structure ExcI (P : Program) (K : PySem.W.Frag) (C f c cc : Addr) (fld : Str) : Prop where
  oex : OexC K C
  own : PySem.W.findIn K (.ref C) fld = some none
  code : ∃ ccl cdd vs ccs file tf, K.lookup c = some (⟨ccl, cdd, .fields vs, ccs⟩ : Obj) ∧ vs[2]? = some (.str file tf) ∧ ((P.main.file : Str) == file) = true
  cell : ∃ cl cld csl, K.lookup cc = some (⟨cl, cld, .cell (some (.ref C)), csl⟩ : Obj)
  cls : ∃ cd, PySem.W.clsIn K C = some cd ∧ PySem.W.alongIn K "__init__" ((cd.mro.dropWhile (· != .ref C)).drop 1) = some (some (.builtin "ValueError.__init__"))
  self : PySem.W.mroIn K C (.ref C) = some true
  ve : PySem.W.subIn K (.ref C) (.type "ValueError") = some true
  third : PySem.W.nsIn K cStatics "thirdparty.any" = some none
  top : (P.main.scope.names.lookup ("super" : Str)).isSome = false
theorem exc_ne {u : HO} (hok : HOk X.prog X.w H s.heap) (KI : X.K.In s.heap) (e : H a = some (exo a C none)) {cd : ClassData} (hc : PySem.W.clsIn X.K C = some cd) : a ≠ C := by
  intro z
  subst z
  obtain ⟨t1, ho⟩ := exo_at hok e
  unfold PySem.W.clsIn at hc
  split at hc
  · rename_i q
    have z := KI _ _ q
    rw [ho] at z
    cases z
  · cases hc
theorem super_stmt {f c cc : Addr} {fld : Str} {of : Obj} {fd : FuncData} {body : List Stmt} {p0 p1 p2 p3 p4 p5 : Pos} {txt : Str} {kk : Nat} {ar : Arg} {Q : Flow → Shared → Prop} {E : Value → Shared → Prop} (T : ExcI X.prog X.K C f c cc fld) (I : Inv X pins σ H s) (e : H a = some (exo a C none))
    (lkf : X.K.lookup f = some of) (hfd : of.data = .func fd) (har : (fd.params.posonlyargs ++ fd.params.args).head? = some ar) (hs0 : ar.arg = "self")
    (hfu : X.env.func = some f) (hco : X.env.code = .ref c) (hks : X.env.kindOf "super" = some .globalImplicit) (hkc : X.env.kindOf "__class__" = some .free) (hcc : X.env.cells.lookup ("__class__" : Str) = some cc) (hself : X.env.kindOf "self" = some .local)
    (hN : X.N[0]? = some ("self" : Str)) (hσ : σ[0]? = some (some (.ref a))) (hsup : X.mg "super" = none) (hint : interactive X.env = false) {pl : Sem Bool}
    (he : eval (.Call (.Attribute (.Call (.Name "super" p0) [] [] p1) "__init__" p2) [.Constant (.str txt) kk p3] [] p4) X.env = (do
      let ov ← attributeBase (.Call (.Name "super" p0) [] [] p1) "__init__" X.env (eval (.Call (.Name "super" p0) [] [] p1) X.env)
      standAt p2.atName
      let (f, first) ← holding [ov] (getMethod ov "__init__" pl)
      callWith p4 f first (backTo p4 (starEach [.Constant (.str txt) kk p3] X.env)) []))
    (h : ∀ s', Inv X pins σ H s' → Q .next s') :
    _root_.PySem.wpAt (model X.prog X.w) X.A (.func body X.env) (exec (.Expr (.Call (.Attribute (.Call (.Name "super" p0) [] [] p1) "__init__" p2) [.Constant (.str txt) kk p3] [] p4) p5) X.env) Q E s := by
  obtain ⟨ccl, cdd, vs, ccs, file, tf, lkc, hvs, hfile⟩ := T.code
  obtain ⟨cl, cld, csl, lkk⟩ := T.cell
  obtain ⟨cd, hcd, halong⟩ := T.cls
  obtain ⟨t1, ho⟩ := exo_at I.hok e
  have KI := I.kIn
  obtain ⟨mb, b1, b2⟩ := I.mod.blt
  obtain ⟨m, hns, hloc⟩ := I.loc
  obtain ⟨oD, hD1, hD2⟩ : ∃ oD, s.heap.get? C = some oD ∧ oD.data = .cls cd := by
    unfold PySem.W.clsIn at hcd
    split at hcd
    · rename_i q
      cases hcd
      exact ⟨_, KI _ _ q, rfl⟩
    · cases hcd
  have hne : a ≠ C := exc_ne (u := .own a) I.hok KI e hcd
  refine PySem.ks_wpAt_Expr_any (PySem.ks_wpAt_MethodCall (pl := pl) ?_ he) hint
  refine PySem.ks_wpAt_super_base hks hkc rfl hfu (KI _ _ lkf) hfd har hco (KI _ _ lkc) rfl hvs hfile T.top ?_
  refine PySem.W.ks_loadName_global I.ok.kind hks (Calls.loadGlobal_builtin (by rw [I.ok.glob]; exact I.mod.glob.keeps I.bk) hsup (by rw [I.ok.blt]; exact b1.keeps I.bk) ((b2 _ (by decide)).trans PyProof.Rows.Boot.«super») ⟨rfl, ?_⟩)
  refine wpAny_loadName_free I.ok.kind hkc hcc ⟨_, KI _ _ lkk, rfl⟩ ?_
  rw [hs0]
  obtain ⟨u, ru, lu⟩ := hloc 0 "self" (.ref a) hN hσ (.inl hself)
  have ru : u = Value.ref a := ru
  subst ru
  have hm : m "self" = some (.ref a) := by
    rcases lu with ⟨_, z⟩ | ⟨z | z, _⟩
    · exact z
    · rw [hself] at z; cases z
    · rw [hself] at z; cases z
  refine wpAny_loadName_local I.ok.kind hself hns hm ?_
  obtain ⟨hh, g, d, t, os⟩ := s
  refine PySem.ks_wpAny_isType_cls hD1 hD2 ⟨rfl, ?_⟩
  refine PySem.ks_wpAny_call_super hD1 hD2 ho rfl (fun c e => by cases e) (PySem.W.looks_mroIn KI T.self) (fun h' e1 k => ?_)
  have J : Inv X pins σ H ⟨h', g, d, t, os⟩ := I.kept (t' := t) k
  have J1 : Inv X pins σ H ⟨h'.push (PySem.W.kxs_mw "ValueError.__init__" a), g, d, t + 1, os⟩ := J.kept (t' := t + 1) fun b o q => Heap.get?_push_of_some _ q
  have hx : h'.get? a = some _ := k _ _ ho
  have hI : PySem.W.Looks (model X.prog X.w) h' (isInstance (.ref a) (.type "ValueError")) true := (PySem.W.InstAt.type (x := a) (ox := { cls := .ref C, data := .fields #[.ref t1, .none, .none, .none, .bool false, .none] }) (C := C) (od := none) ⟨hx, rfl, rfl, trivial⟩).andThen (PySem.W.looks_subIn J.kIn T.ve)
  refine PySem.W.kxs_getMethod PySem.W.kxs_ValueError e1 (PySem.W.looks_opaque J.kIn T.third) (l₀ := cd.mro) ?_ rfl J.kIn halong hI hne rfl ?_
  · exact fun A Q E s k q => wpAny_bind ((PySem.W.looks_clsIn J.kIn hcd) A _ E s k (wpAny_pure q))
  refine PySem.W.kxs_callWith (i := "ValueError.__init__") (x := a) (by rfl) ?_
  show wpAny _ _ (evalArgs (.ref h'.objs.size) true ((false, eval (.Constant (.str txt) kk p3) X.env) :: _) []) _ _ _
  refine Calls.evalArgs_plain (PyProof.Rows.args_cons (e := .Constant (.str txt) kk p3) (Calls.Constant_str (PyProof.Rows.args_nil ?_)) rfl)
  have hu : (h'.push (PySem.W.kxs_mw "ValueError.__init__" a)).get? h'.objs.size = some (PySem.W.kxs_mw "ValueError.__init__" a) := Heap.get?_push_size _ rfl
  exact ⟨hu, obw_ok T.oex (J1.tok _) e hu (by show 1 ≤ sizeLine; decide) fun s' J2 => h s' J2⟩
end
/-- the body of such an __init__ -/
abbrev eBody (fld arg txt : Str) (kk : Nat) (p0 p1 p2 p3 p4 p5 q0 q1 q2 q3 : Pos) : List Stmt :=
  [.Expr (.Call (.Attribute (.Call (.Name "super" p0) [] [] p1) "__init__" p2) [.Constant (.str txt) kk p3] [] p4) p5, .Assign [.Attribute (.Name "self" q0) fld q1] (.Name arg q2) q3]
def spE (C : Addr) (fld : Str) : Sp := fun vs H Q _ => ∃ a v, vs = [.ref a, v] ∧ H a = some (exo a C none) ∧ ∀ dx, H dx = none → dx ≠ a → Q .non (upd (upd H dx (exd dx [(fld, v)])) a (exo a C (some dx)))
section
variable {P : Program} {w : World} {K : PySem.W.Frag} {mg : Str → Option Value} {base : Heap} {CX : CXT} {k : Nat} {f C c cc : Addr} {name qual fld arg txt : Str} {params : Arguments} {scope : Scope} {dV kV doc pm ct oc : Value} {an od : Option Addr} {osl : Array (Option Value)}
  {kk : Nat} {p0 p1 p2 p3 p4 p5 q0 q1 q2 q3 : Pos}
theorem fn_einit (T : ExcI P K C f c cc fld) (lk : K.lookup f = some ⟨oc, od, .func (PySem.W.fnX name qual params (eBody fld arg txt kk p0 p1 p2 p3 p4 p5 q0 q1 q2 q3) scope [("__class__", cc)] dV kV doc pm an (.ref c) ct), osl⟩) (hcd : PySem.W.codeIn K (.ref c) qual = true)
    (S : NdefX.NScope ["self", arg, "__class__"] ["self", arg] ["__class__"] scope) (hks : scope.names.lookup ("super" : Str) = some NameKind.globalImplicit) {ar : Arg} (har : (params.posonlyargs ++ params.args).head? = some ar) (hs0 : ar.arg = "self") (hsup : mg "super" = none) (hd1 : (("self" : Str) == ("__debug__" : Str)) = false := by decide) (hd2 : (arg == ("__debug__" : Str)) = false := by decide) (hd3 : (arg == ("__classdict__" : Str)) = false := by decide) {pl : Addr → Sem Bool}
    (he : ∀ L : Addr, eval (.Call (.Attribute (.Call (.Name "super" p0) [] [] p1) "__init__" p2) [.Constant (.str txt) kk p3] [] p4) (PySem.W.envX qual scope L f (.ref c) [("__class__", cc)]) = (do
      let ov ← attributeBase (.Call (.Name "super" p0) [] [] p1) "__init__" (PySem.W.envX qual scope L f (.ref c) [("__class__", cc)]) (eval (.Call (.Name "super" p0) [] [] p1) (PySem.W.envX qual scope L f (.ref c) [("__class__", cc)]))
      standAt p2.atName
      let (g, first) ← holding [ov] (getMethod ov "__init__" (pl L))
      callWith p4 g first (backTo p4 (starEach [.Constant (.str txt) kk p3] (PySem.W.envX qual scope L f (.ref c) [("__class__", cc)]))) [])) :
    FnOk P w K mg base CX 1 f (PySem.W.fnX name qual params (eBody fld arg txt kk p0 p1 p2 p3 p4 p5 q0 q1 q2 q3) scope [("__class__", cc)] dV kV doc pm an (.ref c) ct) ["self", arg] (spE C fld) := by
  refine ⟨fun vs H Q E ⟨a, v, e, _⟩ => by rw [e]; rfl, fun A outer s H args us vs Q E hr e0 hb r hsp => ?_⟩
  obtain ⟨a, v, rfl, ea, hq⟩ := hsp
  have KB := e0.mod.kin
  have KX : K.In s.heap := KB.keeps fun b o e => (e0.bs b o e).1
  have lim : s.heap.NoLimit := e0.mod.nolimit.keeps fun b o e => (e0.bs b o e).1
  obtain ⟨cl, cld, csl, lkk⟩ := T.cell
  have CA : NdefX.CellsAt [("__class__", cc)] ["__class__"] [none] s.heap H := by
    refine ⟨rfl, fun y c0 hy => ?_, fun x y c0 hx hy => ?_, fun i y hi => ?_⟩
    · have hc : c0 = cc := by
        simp only [List.lookup] at hy
        split at hy
        · exact (Option.some.inj hy).symm
        · cases hy
      subst hc
      exact ⟨(e0.bs _ _ (KB _ _ lkk)).2, _, _, KX _ _ lkk, rfl⟩
    · simp only [List.lookup] at hx hy
      split at hx
      · rename_i h1
        split at hy
        · rename_i h2
          rw [beq_iff_eq] at h1 h2
          rw [h1, h2]
        · cases hy
      · cases hx
    · cases i with
      | zero =>
        cases hi
        exact ⟨cc, by simp [List.lookup], fun v hv => by cases hv⟩
      | succ i => cases hi
  let F : NdefX.NF := ⟨name, qual, params, eBody fld arg txt kk p0 p1 p2 p3 p4 p5 q0 q1 q2 q3, scope, [("__class__", cc)], c⟩
  refine PySem.ks_codeAny_call_defAt (binds := (["self", arg] : List Str).zip us) hr.depth (KX _ _ lk) rfl lim (PySem.W.codeRec_of KX hcd) rfl hb S.nocell (fun ⟨n, z⟩ hy => S.par n (List.of_mem_zip hy).1) (fun h₁ hns kp => ?_) S.co S.gen S.kind
  have hl : ([V.ref a, v] : List V).length = (["self", arg] : List Str).length := rfl
  have I : Inv (NdefX.ncx CX P w K mg base ["self", arg, "__class__"] F f A outer s H E) [] (NdefX.startF ["self", arg, "__class__"] [.ref a, v] [none]) H { s with heap := h₁, toks := s.toks + ((["self", arg] : List Str).zip us).length } := NdefX.inv_startN S hr.hd e0 hl r CA hns kp
  refine PySem.ks_wpAt_execs_cons (super_stmt (X := NdefX.ncx CX P w K mg base ["self", arg, "__class__"] F f A outer s H E) T I ea lk rfl har hs0 rfl rfl hks (S.frk _ (by simp)) (by simp [NdefX.ncx, List.lookup, F]) (S.par _ (by simp)) rfl rfl hsup (by unfold interactive; simp [NdefX.ncx, F, S.kind]) (he s.heap.objs.size) fun s2 I2 => ?_)
  refine wpAt_of_wpAny ?_
  have hps : PSs (NdefX.ncx CX P w K mg base ["self", arg, "__class__"] F f A outer s H E) [.Assign [.Attribute (.Name "self" q0) fld q1] (.Name arg q2) q3] _ := pss_one (ps_ost (pe_var (i := 0) rfl (.inl (S.par _ (by simp))) hd1 (by decide)) (pe_var (i := 1) rfl (.inl (S.par _ (by simp))) hd2 hd3))
  refine wpAny_mono (hps.run [] s2 (NdefX.startF ["self", arg, "__class__"] [.ref a, v] [none]) H { nx := fun _ H' => Q .non H', rt := Q } I2 ?_) (fun fl s' hs => ?_) fun e s' hs => hs
  · exact ⟨v, rfl, .ref a, rfl, a, C, rfl, T.oex, T.own, .inl ⟨ea, fun dx n ne => hq dx n ne⟩⟩
  · cases fl with
    | next =>
      obtain ⟨σ', H', J, q⟩ := hs
      exact ⟨.non, H', J.os, J.bare, J.base, J.hok, rfl, q⟩
    | ret u =>
      obtain ⟨v', σ', H', J, rv, q⟩ := hs
      exact ⟨v', H', J.os, J.bare, J.base, J.hok, rv, q⟩
    | brk =>
      obtain ⟨_, _, _, q⟩ := hs
      exact False.elim q
    | cont =>
      obtain ⟨_, _, _, q⟩ := hs
      exact False.elim q
end
end DL
namespace DL
open PySem PySem.Spec PyProof.Rows L2
/-- an own exception class at the global name x, its one field -/
structure ExcF (P : Program) (w : World) (K : PySem.W.Frag) (mg : Str → Option Value) (base : Heap) (x fld : Str) : Prop where
  oex : OexC K (He.ga K x)
  mgx : mg x = some (.ref (He.ga K x))
  init : ∃ fI fd ps, PySem.W.findIn K (.ref (He.ga K x)) "__init__" = some (some (.ref fI)) ∧ PySem.W.typeIn K (.ref fI) = some (.type "function") ∧ FnOk P w K mg base (L2.CX P w) 1 fI fd ps (spE (He.ga K x) fld) ∧ Binds K fd ps []
end DL
namespace DL
open PySem PySem.Spec PyProof.Rows L2
theorem Takes.len {X : Cx} {W : WX} (t : L2.Takes X W) : L2.Takes X (fun cls d σ H => σ.length = X.N.length → W cls d σ H) := fun u s' ⟨a, B, sI, pins, σ, H, cls, d, e, I, nb, up, sky, na, os, ag, w⟩ =>
  t u s' ⟨a, B, sI, pins, σ, H, cls, d, e, I, nb, up, sky, na, os, ag, w I.len⟩
theorem RpFs.look {K : PySem.W.Frag} {ca : CA} {H : Hp} {f : Str} {w : W} : ∀ {fs : List (Str × W)} {fs' : List (Str × V)}, RpFs K ca H fs fs' → fs.lookup f = some w → ∃ v, fs'.lookup f = some v ∧ Rp K ca H w v
  | [], fs', h, e => by cases e
  | (k, y) :: r, fs', h, e => by
    simp only [RpFs] at h
    obtain ⟨v, t, rfl, h1, h2⟩ := h
    simp only [List.lookup] at e ⊢
    cases hk : f == k with
    | true =>
      rw [hk] at e
      cases e
      exact ⟨v, rfl, h1⟩
    | false =>
      rw [hk] at e
      exact RpFs.look h2 e
end DL
namespace DL
open PySem PySem.Spec PyProof.Rows L2
open He (ba eqO eqO_ok)
/-- a class, its one field, the def of its __init__ -/
structure ExD where
  name : Str
  fld : Str
  qual : Str
  params : Arguments
  body : List Stmt
  scope : Scope
  root : Nat := 0
def ExD.C (d : ExD) (K : PySem.W.Frag) : Addr := He.ga K d.name
def ExD.f (d : ExD) (K : PySem.W.Frag) : Addr := He.ma K (He.ga K d.name) "__init__"
abbrev ExW : Type := Option (Str × Str × Arguments × FuncBody × Scope × Addr × List Str × Addr)
def exW (K : PySem.W.Frag) (d : ExD) : ExW := match K.lookup (d.f K) with
  | some ⟨_, _, .func fd, _⟩ => some (fd.name, fd.qualname, fd.params, fd.body, fd.scope, fd.globals, fd.closure.map (·.1), fd.builtins)
  | _ => none
def ExD.val (d : ExD) : ExW := some ("__init__", d.qual, d.params, .stmts d.body, d.scope, mainGlobals, ["__class__"], builtinsNs)
def oexB (K : PySem.W.Frag) (C : Addr) : Bool := (match K.lookup C with
  | some ⟨.type "type", _, .cls cd, sl⟩ => (match cd.mro, sl.toList with
    | .ref C' :: bm, [_, _, _, _, some (.builtin n), _] => C' == C && n == "ValueError.__new__" && !cd.hasDel && cd.hasDict && PySem.HandSPX.refsVE bm
    | _, _ => false)
  | _ => false) && (eqO (PySem.W.findIn K (.ref C) "__setattr__") (some (some (.builtin "object.__setattr__"))) && (decide (PySem.W.subIn K (.ref C) (.type "BaseException") = some true) && (decide (PySem.W.typeIn K (.ref C) = some (.type "type")) && PySem.W.keepIn K (.ref C))))
theorem oexB_ok {K : PySem.W.Frag} {C : Addr} (h : oexB K C = true) : OexC K C := by
  obtain ⟨q, h⟩ := ba h
  obtain ⟨h2, h⟩ := ba h
  obtain ⟨h3, h⟩ := ba h
  obtain ⟨h4, h5⟩ := ba h
  refine ⟨?_, eqO_ok h2, of_decide_eq_true h3, of_decide_eq_true h4, h5⟩
  split at q
  · rename_i dd cd sl ho
    split at q
    · rename_i C' bm k0 k1 k2 k3 n k5 hm hs
      simp only [Bool.and_eq_true, beq_iff_eq, Bool.not_eq_true'] at q
      obtain ⟨⟨⟨⟨rfl, rfl⟩, hdel⟩, hdct⟩, ht⟩ := q
      obtain ⟨nm, bs, mro, ns, qn, hd, sn, sub, ab, col, del⟩ := cd
      dsimp only at hm hdel hdct
      subst hm hdel hdct
      have hsl : sl = #[k0, k1, k2, k3, some (.builtin "ValueError.__new__"), k5] := by
        obtain ⟨l⟩ := sl
        simp only at hs
        rw [hs]
      subst hsl
      exact ⟨nm, qn, ns, bs, bm, sn, sub, ab, col, dd, k0, k1, k2, k3, k5, ho, ht⟩
    · cases q
  · cases q
def codeB (P : Program) (K : PySem.W.Frag) (c : Addr) : Bool := match K.lookup c with
  | some ⟨_, _, .fields vs, _⟩ => (match (vs[2]? : Option Value) with
    | some (.str file _) => decide (((P.main.file : Str) == file) = true)
    | _ => false)
  | _ => false
def cellB (K : PySem.W.Frag) (cc C : Addr) : Bool := match K.lookup cc with
  | some ⟨_, _, .cell (some (.ref C')), _⟩ => C' == C
  | _ => false
def clsB (K : PySem.W.Frag) (C : Addr) : Bool := match PySem.W.clsIn K C with
  | some cd => eqO (PySem.W.alongIn K "__init__" ((cd.mro.dropWhile (· != .ref C)).drop 1)) (some (some (.builtin "ValueError.__init__")))
  | none => false
/-- the other roots: the class, its new, its __init__, its mro -/
def rootD : Nat → String × String × String × List Value
  | 1 => ("OverflowError", "OverflowError.__new__", "OverflowError.__init__", [.type "OverflowError", .type "ArithmeticError", .type "Exception", .type "BaseException", .type "object"])
  | 2 => ("RuntimeError", "RuntimeError.__new__", "RuntimeError.__init__", [.type "RuntimeError", .type "Exception", .type "BaseException", .type "object"])
  | _ => ("KeyError", "LookupError.__new__", "KeyError.__init__", [.type "KeyError", .type "LookupError", .type "Exception", .type "BaseException", .type "object"])
def oexR (nid : String) (tail : List Value) (K : PySem.W.Frag) (C : Addr) : Bool := (match K.lookup C with
  | some ⟨.type "type", _, .cls cd, sl⟩ => (match cd.mro, sl.toList with
    | .ref C' :: bm, [_, _, _, _, some (.builtin n), _] => C' == C && n == nid && !cd.hasDel && cd.hasDict && bm == tail
    | _, _ => false)
  | _ => false) && (eqO (PySem.W.findIn K (.ref C) "__setattr__") (some (some (.builtin "object.__setattr__"))) && (decide (PySem.W.subIn K (.ref C) (.type "BaseException") = some true) && (decide (PySem.W.typeIn K (.ref C) = some (.type "type")) && PySem.W.keepIn K (.ref C))))
def clsR (iN : String) (K : PySem.W.Frag) (C : Addr) : Bool := match PySem.W.clsIn K C with
  | some cd => eqO (PySem.W.alongIn K "__init__" ((cd.mro.dropWhile (· != .ref C)).drop 1)) (some (some (.builtin iN)))
  | none => false
def ExD.ok0 (P : Program) (K : PySem.W.Frag) (d : ExD) : Bool :=
  oexB K (d.C K) && (eqO (PySem.W.findIn K (.ref (d.C K)) d.fld) (some none) && (clsB K (d.C K) && (decide (PySem.W.mroIn K (d.C K) (.ref (d.C K)) = some true) && (decide (PySem.W.subIn K (.ref (d.C K)) (.type "ValueError") = some true) &&
  (eqO (PySem.W.nsIn K cStatics "thirdparty.any") (some none) && (!(P.main.scope.names.lookup ("super" : Str)).isSome && (eqO (PySem.W.findIn K (.ref (d.C K)) "__init__") (some (some (.ref (d.f K)))) && (decide (PySem.W.typeIn K (.ref (d.f K)) = some (.type "function")) &&
  (match K.lookup (d.f K) with
    | some ⟨_, _, .func fd, _⟩ => decide (fd.defaults = .none) && (match fd.code, fd.closure with
      | .ref c, [(_, cc)] => PySem.W.codeIn K (.ref c) d.qual && (codeB P K c && cellB K cc (d.C K))
      | _, _ => false)
    | _ => false)))))))))
def ExD.okR (P : Program) (K : PySem.W.Frag) (d : ExD) : Bool :=
  oexR (rootD d.root).2.1 (rootD d.root).2.2.2 K (d.C K) && (eqO (PySem.W.findIn K (.ref (d.C K)) d.fld) (some none) && (clsR (rootD d.root).2.2.1 K (d.C K) && (decide (PySem.W.mroIn K (d.C K) (.ref (d.C K)) = some true) && (decide (PySem.W.subIn K (.ref (d.C K)) (.type (rootD d.root).1) = some true) &&
  (eqO (PySem.W.nsIn K cStatics "thirdparty.any") (some none) && (!(P.main.scope.names.lookup ("super" : Str)).isSome && (eqO (PySem.W.findIn K (.ref (d.C K)) "__init__") (some (some (.ref (d.f K)))) && (decide (PySem.W.typeIn K (.ref (d.f K)) = some (.type "function")) &&
  (match K.lookup (d.f K) with
    | some ⟨_, _, .func fd, _⟩ => decide (fd.defaults = .none) && (match fd.code, fd.closure with
      | .ref c, [(_, cc)] => PySem.W.codeIn K (.ref c) d.qual && (codeB P K c && cellB K cc (d.C K))
      | _, _ => false)
    | _ => false)))))))))
def ExD.ok (P : Program) (K : PySem.W.Frag) (d : ExD) : Bool := if d.root = 0 then d.ok0 P K else d.okR P K
/-- the class is caught by its own name, its field is read -/
def exhB (K : PySem.W.Frag) (d : ExD) : Bool := xfB K (d.C K) && decide (PySem.W.exmOne K (.ref (d.C K)) (.ref (d.C K)) = some true)
section
variable {P : Program} {w : World} {K : PySem.W.Frag} {mg : Str → Option Value} {base : Heap} {d : ExD} {arg txt : Str} {kk : Nat} {p0 p1 p2 p3 p4 p5 q0 q1 q2 q3 : Pos}
theorem two_of {n13 : Value} {n7 : List (Str × Addr)} {f : Addr → Addr → Bool} (h : (match n13, n7 with
    | .ref c, [(_, cc)] => f c cc
    | _, _ => false) = true) : ∃ c nm cc, n13 = .ref c ∧ n7 = [(nm, cc)] ∧ f c cc = true := by
  split at h
  · rename_i c nm cc
    exact ⟨c, nm, cc, rfl, rfl, h⟩
  · cases h
theorem excF_of (hv : exW K d = d.val) (h : d.ok P K = true) (hmx : mg d.name = some (.ref (He.ga K d.name))) (hbd : d.body = eBody d.fld arg txt kk p0 p1 p2 p3 p4 p5 q0 q1 q2 q3)
    (S : NdefX.NScope ["self", arg, "__class__"] ["self", arg] ["__class__"] d.scope) (hks : d.scope.names.lookup ("super" : Str) = some NameKind.globalImplicit) {ar : Arg} (har : (d.params.posonlyargs ++ d.params.args).head? = some ar) (hs0 : ar.arg = "self") (hsup : mg "super" = none)
    (hbi : ∀ (cl : List (Str × Addr)) (kV doc pm : Value) (an : Option Addr) (cdv ct u v : Value), bindArgs (PySem.W.fnX "__init__" d.qual d.params d.body d.scope cl .none kV doc pm an cdv ct) ⟨[u, v], []⟩ = pure ((["self", arg] : List Str).zip [u, v]))
    (hd1 : (("self" : Str) == ("__debug__" : Str)) = false) (hd2 : (arg == ("__debug__" : Str)) = false) (hd3 : (arg == ("__classdict__" : Str)) = false) {pl : Addr → Addr → Addr → Addr → Sem Bool}
    (he : ∀ f c cc L : Addr, eval (.Call (.Attribute (.Call (.Name "super" p0) [] [] p1) "__init__" p2) [.Constant (.str txt) kk p3] [] p4) (PySem.W.envX d.qual d.scope L f (.ref c) [("__class__", cc)]) = (do
      let ov ← attributeBase (.Call (.Name "super" p0) [] [] p1) "__init__" (PySem.W.envX d.qual d.scope L f (.ref c) [("__class__", cc)]) (eval (.Call (.Name "super" p0) [] [] p1) (PySem.W.envX d.qual d.scope L f (.ref c) [("__class__", cc)]))
      standAt p2.atName
      let (g, first) ← holding [ov] (getMethod ov "__init__" (pl f c cc L))
      callWith p4 g first (backTo p4 (starEach [.Constant (.str txt) kk p3] (PySem.W.envX d.qual d.scope L f (.ref c) [("__class__", cc)]))) [])) (hr0 : d.root = 0 := by rfl) :
    ExcF P w K mg base d.name d.fld := by
  have h : d.ok0 P K = true := by
    unfold ExD.ok at h
    rw [if_pos hr0] at h
    exact h
  obtain ⟨h1, h⟩ := ba h
  obtain ⟨h2, h⟩ := ba h
  obtain ⟨h3, h⟩ := ba h
  obtain ⟨h4, h⟩ := ba h
  obtain ⟨h5, h⟩ := ba h
  obtain ⟨h6, h⟩ := ba h
  obtain ⟨h7, h⟩ := ba h
  obtain ⟨h8, h⟩ := ba h
  obtain ⟨h9, h⟩ := ba h
  have T1 := oexB_ok h1
  unfold exW at hv
  cases q : K.lookup (d.f K) with
  | none => rw [q] at h; cases h
  | some o =>
    rw [q] at h hv
    obtain ⟨oc, od, dt, osl⟩ := o
    cases dt with
    | func fd =>
      obtain ⟨n1, n2, n3, n4, n5, n6, n7, n8, n9, n10, n11, n12, n13, n14, n15⟩ := fd
      have e2 : (some (n1, n2, n3, n4, n5, n6, n7.map (·.1), n15) : ExW) = some (("__init__" : Str), d.qual, d.params, FuncBody.stmts d.body, d.scope, mainGlobals, (["__class__"] : List Str), builtinsNs) := hv
      simp only [Option.some.injEq, Prod.mk.injEq] at e2
      obtain ⟨k1, k2, k3, k4, k5, k6, k7, k8⟩ := e2
      subst k1 k2 k3 k4 k5 k6 k8
      obtain ⟨c, nm, cc, rfl, rfl, c3⟩ := two_of (n13 := n13) (n7 := n7) (f := fun c cc => PySem.W.codeIn K (.ref c) d.qual && (codeB P K c && cellB K cc (d.C K))) (ba h).2
      · have hdn : n8 = .none := of_decide_eq_true (ba h).1
        subst hdn
        obtain ⟨z1, z2⟩ := ba c3
        obtain ⟨z2, z3⟩ := ba z2
        have hnm : nm = ("__class__" : Str) := by simpa using k7
        subst hnm
        have T : ExcI P K (d.C K) (d.f K) c cc d.fld := by
          refine ⟨T1, eqO_ok h2, ?_, ?_, ?_, of_decide_eq_true h4, of_decide_eq_true h5, eqO_ok h6, by simpa using h7⟩
          · unfold codeB at z2
            split at z2
            · rename_i a1 a2 vs a3 e1
              split at z2
              · rename_i file tf e3
                exact ⟨_, _, vs, _, file, tf, e1, e3, of_decide_eq_true z2⟩
              · cases z2
            · cases z2
          · unfold cellB at z3
            split at z3
            · rename_i a1 a2 C' a3 e1
              have e : C' = d.C K := beq_iff_eq.mp z3
              subst e
              exact ⟨_, _, _, e1⟩
            · cases z3
          · unfold clsB at h3
            split at h3
            · rename_i cd e1
              exact ⟨cd, e1, eqO_ok h3⟩
            · cases h3
        have F := fn_einit (P := P) (w := w) (K := K) (mg := mg) (base := base) (CX := L2.CX P w) (f := d.f K) (C := d.C K) (c := c) (cc := cc) (name := "__init__") (qual := d.qual) (fld := d.fld) (arg := arg) (txt := txt) (params := d.params) (scope := d.scope)
          (dV := .none) (kV := n9) (doc := n10) (pm := n11) (ct := n14) (oc := oc) (an := n12) (od := od) (osl := osl) (kk := kk) (p0 := p0) (p1 := p1) (p2 := p2) (p3 := p3) (p4 := p4) (p5 := p5) (q0 := q0) (q1 := q1) (q2 := q2) (q3 := q3)
          T (by rw [q, hbd]) z1 S hks har hs0 hsup hd1 hd2 hd3 (pl := fun L => pl (d.f K) c cc L) (fun L => he (d.f K) c cc L)
        refine ⟨T1, hmx, d.f K, _, _, eqO_ok h8, of_decide_eq_true h9, F, .all fun us hl => ?_⟩
        match us, hl with
        | [u, v], _ =>
          have z := hbi [("__class__", cc)] n9 n10 n11 n12 (.ref c) n14 u v
          rw [hbd] at z
          exact z
    | _ => cases h
end
end DL
namespace DL
open PySem PySem.Spec PyProof.Rows L2
open He (ba eqO eqO_ok cT codeOf Defn)
def TTof (K : PySem.W.Frag) (tf : List Str) : List (Addr × Str) := tf.map fun x => ((cT K (x, none)).2, x ++ ".<locals>." ++ "<lambda>")
abbrev tfOf (tf : List Str) : List Defn := tf.map fun x => (x, none)
def ndB (K : PySem.W.Frag) (tf : List Str) : Bool := decide ((tf.map fun x => (cT K (x, none)).2).Nodup)
def TBs (K : PySem.W.Frag) (base : Heap) (mg : Str → Option Value) (tf : List Str) : Prop := ∀ x ∈ tf, LamX.TabB base mg (cT K (x, none)).1 (cT K (x, none)).2
def mayL (sp : Sp) : Sp := fun vs H Q E => sp vs H Q E ∨ ∃ p xs, H p = some (.lst xs) ∧ ∀ o, sp vs (upd H p (.frz o (.lst xs))) Q E
theorem pss_mayL {X : Cx} {body : List Stmt} {t : TS} (h : PSs X body t) : PSs X body (fun D σ H => t D σ H ∨ ∃ p xs, H p = some (.lst xs) ∧ ∀ o, t D σ (upd H p (.frz o (.lst xs)))) :=
  ⟨fun pins s σ H D I hw => by
    rcases hw with hw | ⟨p, xs, e, hw⟩
    · exact h.run pins s σ H D I hw
    · obtain ⟨od, I2⟩ := I.lock e trivial
      exact h.run pins s σ _ D I2 (hw od)⟩
abbrev AlH : Type := He.AlX × List ExW
def moreB (P : Program) (ts : List Tb) (xs : List ExD) (tf : List Str) (K : PySem.W.Frag) : Bool := (ts.all fun t => tabB K (He.ga K t.1) t.2) && ((xs.all fun d => d.ok P K && exhB K d) && (ndB K tf && eqO (PySem.W.nsIn K mainGlobals "super") (some none)))
def obsHK (P : Program) (fa : List He.Fa) (fn : List He.DefD) (ts : List Tb) (tf : List Str) (xs : List ExD) (g : Addr → Option Obj) (K : PySem.W.Frag) : AlH := ((He.obsT fa fn (tabsOf ts) K, moreB P ts xs tf K && He.tabsB g (tfOf tf) K), xs.map (exW K))
/-- the code object of the def at f -/
def codeA (g : Addr → Option Obj) (f : Addr) : List Addr := match g f with
  | some ⟨_, _, .func fd, _⟩ => (match fd.code with
    | .ref c => [c]
    | _ => [])
  | _ => []
def growN (g : Addr → Option Obj) : Nat → List Addr → List Addr
  | 0, l => l
  | n + 1, l => growN g n (He.growD g l)
/-- what is looked at: the names' objects, the defs' code objects, the classes and what they name -/
def asN (ns cls : List Str) (g : Addr → Option Obj) : List Addr := mainGlobals :: cStatics :: (ns.map (fun x => He.ga (He.frG g [mainGlobals]) x) ++ ((ns.flatMap fun x => codeA g (He.ga (He.frG g [mainGlobals]) x)) ++ growN g 3 (cls.map fun x => He.ga (He.frG g [mainGlobals]) x)))
abbrev AS : Type := (Addr → Option Obj) → List Addr
def obsH (P : Program) (n : AS) (fa : List He.Fa) (fn : List He.DefD) (ts : List Tb) (tf : List Str) (xs : List ExD) (g : Addr → Option Obj) : AlH := obsHK P fa fn ts tf xs g (He.frT g (n g))
def valH (fn : List He.DefD) (ts : List Tb) (xs : List ExD) (w : World) : AlH := (He.valX fn (tabsOf ts) w, xs.map ExD.val)
structure SaysH (P : Program) (fa : List He.Fa) (fn : List He.DefD) (ts : List Tb) (tf : List Str) (xs : List ExD) (w : World) (h : Heap) (K : PySem.W.Frag) : Prop where
  x : He.SaysX fa fn (tabsOf ts) (tfOf tf) (moreB P ts xs tf) w h K
  e : xs.map (exW K) = xs.map ExD.val
theorem saysH_of {P : Program} {n : AS} {fa : List He.Fa} {fn : List He.DefD} {ts : List Tb} {tf : List Str} {xs : List ExD} {w : World} {h : Heap} (e : obsH P n fa fn ts tf xs h.get? = valH fn ts xs w) : SaysH P fa fn ts tf xs w h (He.frT h.get? (n h.get?)) := by
  have e0 : (He.obsT fa fn (tabsOf ts) (He.frT h.get? (n h.get?)), moreB P ts xs tf (He.frT h.get? (n h.get?)) && He.tabsB h.get? (tfOf tf) (He.frT h.get? (n h.get?))) = He.valX fn (tabsOf ts) w := congrArg (fun z : AlH => z.1) e
  obtain ⟨h1, h2⟩ := ba (congrArg (fun z : He.AlX => z.2) e0)
  have key : ∀ p ∈ tfOf tf, _ := fun p hp => ba (List.all_eq_true.mp h2 p hp)
  refine ⟨⟨congrArg (fun z : He.AlX => z.1) e0, h1, fun p hp => (key p hp).1, fun p hp => ?_, fun p hp => ?_⟩, congrArg (fun z : AlH => z.2) e⟩
  all_goals
    have h4 := (key p hp).2
    split at h4
    · rename_i o q
      first
        | exact He.frT_none q h4
        | rw [q, He.emptyTab_eq h4]
    · cases h4
/-- what is told of the exceptions, in one -/
structure SaysE (P : Program) (K : PySem.W.Frag) (mg : Str → Option Value) (xs : List ExD) (tf : List Str) : Prop where
  ex : ∀ d ∈ xs, exW K d = d.val ∧ d.ok P K = true ∧ exhB K d = true
  nd : ndB K tf = true
  sup : mg "super" = none
section
variable {P : Program} {fa : List He.Fa} {fn : List He.DefD} {ts : List Tb} {tf : List Str} {xs : List ExD} {w : World} {h : Heap} {K : PySem.W.Frag} {mg : Str → Option Value}
theorem SaysH.d (c : SaysH P fa fn ts tf xs w h K) : He.SaysD fa fn K := c.x.t.d
theorem SaysH.tab (c : SaysH P fa fn ts tf xs w h K) (i : Nat) {T : Str} {tab : List (Str × W)} (hi : ts[i]? = some (T, tab) := by rfl) : KTab K w (He.ga K T) tab :=
  SaysW.tab (fa := fa) (fn := fn) (show obsW fa fn ts K = valW fn ts w by
    unfold obsW valW
    rw [(ba c.x.more).1]
    have e : He.obsT fa fn (tabsOf ts) K = He.valT fn (tabsOf ts) w := c.x.t
    rw [e]) i hi
theorem SaysH.ex (c : SaysH P fa fn ts tf xs w h K) (KX : K.In h) (G : h.Ns mainGlobals mg) : SaysE P K mg xs tf := by
  obtain ⟨h1, h2⟩ := ba (ba c.x.more).2
  obtain ⟨h3, h4⟩ := ba h2
  refine ⟨fun d hd => ?_, h3, PySem.W.mg_none_of KX G (eqO_ok h4)⟩
  obtain ⟨k1, k2⟩ := ba (List.all_eq_true.mp h1 d hd)
  obtain ⟨i, hi, e⟩ := List.mem_iff_getElem.mp hd
  have e2 : (xs.map (exW K))[i]? = (xs.map ExD.val)[i]? := by rw [c.e]
  rw [List.getElem?_map, List.getElem?_map, List.getElem?_eq_getElem hi, e] at e2
  exact ⟨Option.some.inj e2, k1, k2⟩
end
end DL
namespace DL
open PySem PySem.Spec PyProof.Rows L2
open He (ba eqO eqO_ok cT codeOf Defn)
def clsBody : Stmt → List Stmt
  | .ClassDef _ _ _ b _ _ _ _ _ _ _ => b
  | _ => []
theorem exh_ok {P : Program} {K : PySem.W.Frag} {d : ExD} (h : d.ok P K = true) (h2 : exhB K d = true) : XfC K (He.ga K d.name) ∧ PySem.W.findIn K (.ref (He.ga K d.name)) d.fld = some none ∧ PySem.W.exmOne K (.ref (He.ga K d.name)) (.ref (He.ga K d.name)) = some true := by
  obtain ⟨h3, h4⟩ := ba h2
  have k2 : eqO (PySem.W.findIn K (.ref (d.C K)) d.fld) (some none) = true := by
    unfold ExD.ok at h
    split at h
    · exact (ba (ba h).2).1
    · exact (ba (ba h).2).1
  exact ⟨xfB_ok h3, eqO_ok k2, of_decide_eq_true h4⟩
end DL
namespace DL
open PySem PySem.Spec PyProof.Rows L2
open He (ba eqO eqO_ok cT codeOf Defn)
structure FnG (P : Program) (w : World) (K : PySem.W.Frag) (mg : Str → Option Value) (base : Heap) (CX : CXT) (k : Nat) (f : Addr) (fd : FuncData) (ps : List Str) (sp : Sp) : Prop where
  len : ∀ vs H Q E, sp vs H Q E → vs.length = ps.length
  run : ∀ (A : Around) (outer : List Env) (s : Shared) (H : Hp) (args : Args) (us : List Value) (vs : List V) (Q : VK) (E : XK), A.guards = some [] → Room k A → Env0 P w K mg base A outer s H → BindsTo s fd args (ps.zip us) → Vals vs us → sp vs H Q E →
    codeAny (model P w) A (.call (.ref f) args) (CR CX outer P w H s Q E) s
theorem FnG.imp {P : Program} {w : World} {K : PySem.W.Frag} {mg : Str → Option Value} {base : Heap} {CX : CXT} {k : Nat} {f : Addr} {fd : FuncData} {ps : List Str} {sp sp' : Sp} (F : FnG P w K mg base CX k f fd ps sp) (h : ∀ vs H Q E, sp' vs H Q E → sp vs H Q E) : FnG P w K mg base CX k f fd ps sp' :=
  ⟨fun vs H Q E q => F.len vs H Q E (h _ _ _ _ q), fun A outer s H args us vs Q E hgd hr he hb hv hs => F.run A outer s H args us vs Q E hgd hr he hb hv (h _ _ _ _ hs)⟩
section
variable {P : Program} {w : World} {K : PySem.W.Frag} {mg : Str → Option Value} {base : Heap} {x qual : Str} {params : Arguments} {body : List Stmt} {scope : Scope} {dvs : List V} {kws : List (Str × V)} {f : Addr} {fd : FuncData} {N ps : List Str} {k : Nat} {st : Bool × List (Addr × Str)} {mb : SM}
/-- a def by its body, as the data layer tells it -/
theorem fn_okG (pd : Defn) (hf : He.fAd K pd = f) (Fd : FunD K x qual params body scope dvs kws f fd) (S : FnScope N ps scope)
    (hb : ∀ (cdv : Value), cdv = .ref (codeOf K pd) → ∀ (A : Around) (outer : List Env) (s : Shared) (H : Hp) (E : XK), A.guards = some [] → Room k (A.deeper (envOfC qual scope s.heap.objs.size f cdv)) → ∀ (Wx : WX), L2.Takes (cxOf (L2.CX P w) P w K mg base N qual scope f cdv A outer s H E) Wx → ∀ D : DC, D.K = K → (st.1 = true → D.st = true) → D.sx.2 = st.2 →
      DSs D Wx (cxOf (L2.CX P w) P w K mg base N qual scope f cdv A outer s H E) body mb) :
    FnG P w K mg base (L2.CX P w) (k + 1) f fd ps (mayL (callP K st (runB N.length mb) ps.length)) := by
  obtain ⟨oc, od, dV, kV, doc, pm, an, cdv, ct, osl, rfl, lk, hcd, _, _⟩ := Fd.ex
  obtain ⟨c, rfl⟩ := He.codeIn_ref hcd
  have hc : codeOf K pd = c := He.codeOf_eq (by rw [hf]; exact lk) rfl
  have ln : ∀ vs H Q E, mayL (callP K st (runB N.length mb) ps.length) vs H Q E → vs.length = ps.length := fun vs H Q E h => h.elim (fun h => h.1) fun ⟨p, xs, e, h⟩ => (h default).1
  refine ⟨ln, fun A outer s H args us vs Q E hgd hr e0 hbd rv hsp => ?_⟩
  have hlen := ln _ _ _ _ hsp
  have inK : K.In s.heap := e0.mod.kin.keeps fun b o e => (e0.bs b o e).1
  have kinds : ∀ y ∈ ps.zip us, scope.names.lookup y.1 = some .local ∨ (scope.names.lookup y.1 = some .cell ∧ ((cellsFrom (s.heap.objs.size + 1) scope.names []).lookup y.1).isSome = true) := fun y hy => by
    obtain ⟨n, v⟩ := y
    exact (S.par n (List.of_mem_zip hy).1).imp id fun q => ⟨q, PySem.W.cellsFrom_some _ _ _ (.inl q)⟩
  have body_ok : PSs (cxOf (L2.CX P w) P w K mg base N qual scope f (.ref c) A outer s H E) body (fun Dn σ H => ∃ D : DC, D.K = K ∧ (st.1 = true → D.st = true) ∧ D.sx.2 = st.2 ∧ RdS D (fun cls d _ H' => E cls d H') mb Dn σ H) :=
    ⟨fun pins s' σ H' Dn I ⟨D, e1, e2, e3, hw⟩ => (hb (.ref c) (by rw [hc]) A outer s H E hgd (hr.deeper _) _ (takes_of rfl rfl rfl rfl) D e1 e2 e3).run pins s' σ H' Dn I hw⟩
  have wish : (fun Dn σ H => (∃ D : DC, D.K = K ∧ (st.1 = true → D.st = true) ∧ D.sx.2 = st.2 ∧ RdS D (fun cls d _ H' => E cls d H') mb Dn σ H) ∨ ∃ p xs, H p = some (.lst xs) ∧ ∀ o, (∃ D : DC, D.K = K ∧ (st.1 = true → D.st = true) ∧ D.sx.2 = st.2 ∧ RdS D (fun cls d _ H' => E cls d H') mb Dn σ (upd H p (.frz o (.lst xs))))) { nx := fun _ H' => Q .non H', rt := Q } (L2.start N vs) H := by
    rcases hsp with h | ⟨p, xs, e, h⟩
    · obtain ⟨ca, h2⟩ := body_of h
      exact .inl ⟨cb K H ca st, rfl, fun h => h, rfl, h2⟩
    · refine .inr ⟨p, xs, e, fun o => ?_⟩
      obtain ⟨ca, h2⟩ := body_of (h o)
      exact ⟨cb K _ ca st, rfl, fun h => h, rfl, h2⟩
  refine codeAny_call_function hr.depth (inK _ _ lk) rfl S.co S.gen rfl (PySem.W.codeRec_of inK hcd) (hbd _ _ _ _ ?_)
  refine wpAny_newFunctionEnv_cells S.kind kinds fun env henv s1 nw => ?_
  subst henv
  refine ⟨(e0.mod.nolimit.keeps fun b o e => (e0.bs b o e).1).keeps nw.toInCall.keep, codeAny_func ?_⟩
  have I := inv_start (CX := L2.CX P w) (E := E) S hr.hd e0 hlen rv nw
  refine wpAny_mono ((pss_mayL body_ok).run [] s1 _ H _ I wish) (fun fl s' hs => ?_) fun e s' hs => hs
  cases fl with
  | ret u =>
    obtain ⟨v, σ', H', J, r, q⟩ := hs
    exact ⟨v, H', J.os, J.bare, J.base, J.hok, r, q⟩
  | next =>
    obtain ⟨σ', H', J, q⟩ := hs
    exact ⟨.non, H', J.os, J.bare, J.base, J.hok, rfl, q⟩
  | brk =>
    obtain ⟨_, _, _, q⟩ := hs
    exact q.elim
  | cont =>
    obtain ⟨_, _, _, q⟩ := hs
    exact q.elim
end
def HasG (P : Program) (w : World) (K : PySem.W.Frag) (mg : Str → Option Value) (base : Heap) (k : Nat) (x : Str) (ps : List Str) (sp : Sp) : Prop :=
  ∃ fd, PySem.W.keepIn K (.ref (He.ga K x)) = true ∧ Binds K fd ps [] ∧ mg x = some (.ref (He.ga K x)) ∧ FnG P w K mg base (L2.CX P w) k (He.ga K x) fd ps sp
section
variable {D : DC} {Wx : WX} {X : Cx} {k n : Nat} {ps : List Str} {st : Bool} {F : FM} {x : Str} {p pos : Pos} {e : Expr} {es : List Expr} {l : LM}
theorem pe_callG {CX : CXT} {f : Addr} {fd : FuncData} {sp : Sp} {E : L2.St → XK} {t : TA} (G : FnG X.prog X.w X.K X.mg X.base CX k f fd ps sp) (hgd : X.A.guards = some []) (hr : Room k X.A) (hg : Gl X x) (hm : X.mg x = some (.ref f)) (hk : PySem.W.keepIn X.K (.ref f) = true) (hb : Binds X.K fd ps [])
    (hx : ∀ σ, PassesAt CX X σ (E σ)) (ha : PA X (e :: es) t) (hdb : (x == ("__debug__" : Str)) = false) (he : starEach (e :: es) X.env = (false, eval e X.env) :: starEach es X.env) (hpl : (backTo pos (starEach es X.env)).any (·.1) = false) :
    PE X (.Call (.Name x p) (e :: es) [] pos) (tCallSD sp [] E t) := by
  refine ⟨fun pins s σ H Q I h => wpAny_Call_Name_kw (ld_glob I hg hm (PySem.W.callWith_K (h₀ := X.base) I.ok.mod.kin hk (thn (ha.run pos pins s σ H _ I h) fun us s1 got => ?_) he hpl) hdb)⟩
  obtain ⟨vs, H1, I1, rv, q⟩ := got
  have q : sp (vs ++ []) H1 Q (E σ) := q
  rw [List.append_nil] at q
  have ul : (us ++ []).length = ps.length := by rw [List.append_nil, ← rv.length]; exact G.len _ _ _ _ q
  have bd := hb s1 us I1.kIn ul
  rw [List.append_nil] at bd
  refine ⟨I1.kIn, wpAny_call (codeAny_mono (G.run X.A X.stack s1 H1 ⟨us, []⟩ us vs Q (E σ) hgd hr I1.env0 bd rv q) fun r s' got => ?_)⟩
  match r, got with
  | .error err, got => exact hx σ pins H1 s1 err s' I1 got
  | .ok (.ret u), got => exact I1.after got
end
def reprOk (w : W) : Bool := w.canLay0 && (w.showable && (Nat.ble w.depth 60 && Nat.ble w.shown.length sizeLine))
def gRepr : List W → Option W
  | [w] => if reprOk w = true then some (.str w.shown) else none
  | _ => none
section
variable {D : DC} {X : Cx}
theorem bt_repr : bootBuiltins "repr" = some (.builtin "repr") := by kernel_rfl
theorem dc_repr (hK : D.K = X.K) (hgd : X.A.guards = some []) (hu : X.A.units + 65 < cLine) : DCall D X (.builtin "repr") gRepr := fun pins s σ ca H xs us ws w Q I r p e q => by
  match ws, e, p with
  | [d], e, p =>
    have e : (if reprOk d = true then some (PyData.str d.shown) else none) = some w := e
    by_cases hd : reprOk d = true
    · rw [if_pos hd] at e
      cases e
      obtain ⟨c1, c2⟩ := ba hd
      obtain ⟨c2, c3⟩ := ba c2
      obtain ⟨c3, c4⟩ := ba c3
      have c3 := Nat.le_of_ble_eq_true c3
      have c4 := Nat.le_of_ble_eq_true c4
      obtain ⟨v, rfl, pv⟩ := p.inv1
      obtain ⟨u, rfl, rv⟩ := vals1 r
      rw [hK] at pv
      obtain ⟨as, rd⟩ := Dp.reads I d v u (Rp.dp d v c1 pv) rv
      have fin : ∀ (h' : Heap) (tu : Tok) (tk : Nat), (∀ b o, s.heap.get? b = some o → h'.get? b = some o) → EP X pins σ Q (.str d.shown tu) { s with heap := h', toks := tk } := fun h' tu tk hk => ⟨.str d.shown, H, I.kept (t' := tk) hk, ⟨tu, rfl⟩, q _ H (fun _ _ h => h) rp_str⟩
      have ref : ∀ a : Addr, u = .ref a → wpAny (model X.prog X.w) X.A (call (.builtin "repr") [u]) (EP X pins σ Q) X.xe s := fun a e => by
        subst e
        exact repr_of_reads' rd c2 (PyData.noDict_hsm (PyData.hasDict_of_canLay d c1)) hgd (by omega) (fun _ _ h => h) (fun h' tu tk hk => fin h' tu tk hk) c4
      cases rd with
      | none => exact PySem.P.repr_of_none (fin s.heap _ _ fun _ _ h => h)
      | bool => exact PySem.P.repr_of_bool (fin s.heap _ _ fun _ _ h => h)
      | int => exact PySem.P.repr_of_int (of_decide_eq_true c2) (fin s.heap _ _ fun _ _ h => h)
      | str => exact PySem.P.repr_of_str (fin s.heap _ _ fun _ _ h => h) c4
      | _ => exact ref _ rfl
    · rw [if_neg hd] at e; cases e
end
end DL
namespace DL
open PySem PySem.Spec PyProof.Rows L2
open He (ba eqO eqO_ok cT codeOf Defn)
def emptyO : Obj := { cls := .none, data := .fields #[] }
def lstO (vs : List Value) : Obj := { cls := .type "list", data := .seq vs.toArray }
/-- what is tracked at the start: the tables, and the script where K does not know it -/
def startH (K : PySem.W.Frag) (T : List Addr) (a : Addr) (vs : List Value) (xs : List V) : Hp := fun b => if b ∈ T then some (.tbl #[]) else if b = a ∧ K.lookup a = none then some (.frz (lstO vs) (.lst xs)) else none
section
variable {P : Program} {w : World} {K : PySem.W.Frag} {mg mb : Str → Option Value} {k : Nat} {fa a : Addr} {T : List Addr} {cs : List (Addr × Addr)} {fd : FuncData} {x : Str} {sp : Sp} {s : Shared} {vs : List Value} {xs : List V}
theorem startH_cases {b : Addr} {u : HO} (h : startH K T a vs xs b = some u) : (b ∈ T ∧ u = .tbl #[]) ∨ (b = a ∧ K.lookup a = none ∧ u = .frz (lstO vs) (.lst xs)) := by
  unfold startH at h
  by_cases h1 : b ∈ T
  · rw [if_pos h1] at h
    cases h
    exact .inl ⟨h1, rfl⟩
  · rw [if_neg h1] at h
    by_cases h2 : b = a ∧ K.lookup a = none
    · rw [if_pos h2] at h
      cases h
      exact .inr ⟨h2.1, h2.2, rfl⟩
    · rw [if_neg h2] at h
      cases h
/-- an object that is neither a list nor empty is not tracked -/
theorem startH_none {b : Addr} {o : Obj} (hT : ∀ p ∈ T, s.heap.get? p = some emptyO) (ha : s.heap.get? a = some (lstO vs)) (e : s.heap.get? b = some o) (h1 : ∀ v n, o.data ≠ .seq v n) (h2 : o.data ≠ .fields #[]) : startH K T a vs xs b = none := by
  cases q : startH K T a vs xs b with
  | none => rfl
  | some u =>
    rcases startH_cases q with ⟨m, _⟩ | ⟨rfl, _, _⟩
    · rw [hT b m] at e
      cases e
      exact absurd rfl h2
    · rw [ha] at e
      cases e
      exact absurd rfl (h1 _ _)
theorem law_callG (KX : K.In s.heap) (hns : s.heap.Ns mainGlobals mg) (hb : s.heap.Ns builtinsNs mb) (hbb : ∀ x : Str, x ≠ "__name__" → mb x = bootBuiltins x) (hlim : s.heap.NoLimit) (hg : s.gens = #[])
    (hT : ∀ p ∈ cs, s.heap.get? p.2 = some emptyO) (nT : ∀ p ∈ cs, K.lookup p.2 = none) (C : ∀ p ∈ cs, PySem.W.CodeHd s.heap p.1 p.2)
    (hbm : ∃ (bm : Addr) (ob : Obj), mg "__builtins__" = some (.ref bm) ∧ bm ≠ builtinsNs ∧ s.heap.get? bm = some ob ∧ ob.cls = .type "module" ∧ ob.dict = some builtinsNs ∧ ob.data = .plain)
    (ha : s.heap.get? a = some (lstO vs)) (rv : Vals xs vs) (hl : xs.length ≤ sizeLine) (hr : Room k callerA)
    (F : ∀ base : Heap, K.In base → (∀ p ∈ cs, LamX.TabB base mg p.1 p.2) → FnG P w K mg base (L2.CX P w) k fa fd [x] sp) (hbind : ∀ (s : Shared) (u : Value), BindsTo s fd ⟨[u], []⟩ [(x, u)])
    (hsp : sp [.ref a] (startH K (cs.map (·.2)) a vs xs) (fun v _ => v = .bl true) fun _ _ _ => False) :
    codeAny (model P w) callerA (.call (.ref fa) ⟨[.ref a], []⟩) (fun r s' => r = .ok (.ret (.bool true)) ∧ OldK s.heap s'.heap ∧ s'.os = s.os ∧ AllBare s'.gens) s := by
  have hT2 : ∀ b ∈ cs.map (·.2), s.heap.get? b = some emptyO := fun b hb => by
    obtain ⟨p, hp, rfl⟩ := List.mem_map.mp hb
    exact hT p hp
  have none_of := fun (b : Addr) (o : Obj) => startH_none (K := K) (T := cs.map (·.2)) (xs := xs) (b := b) (o := o) hT2 ha
  generalize hH : startH K (cs.map (·.2)) a vs xs = H at hsp none_of
  have track : ∀ b u, H b = some u → (b ∈ cs.map (·.2) ∧ u = .tbl #[]) ∨ (b = a ∧ K.lookup a = none ∧ u = .frz (lstO vs) (.lst xs)) := fun b u e => by
    rw [← hH] at e
    exact startH_cases e
  have hok : HOk P w H s.heap := fun b u e => by
    rcases track b u e with ⟨m, rfl⟩ | ⟨rfl, _, rfl⟩
    · exact hT2 b m
    · exact ⟨ha, hl, vs, _, rv, ha⟩
  have basis : ∀ {b : Addr} {o : Obj}, s.heap.get? b = some o → H b = none → (hidT s.heap H).get? b = some o := fun e n => hidT_get e n
  have dicts : ∀ {b : Addr} {m : Str → Option Value}, s.heap.Ns b m → (hidT s.heap H).Ns b m := fun {b m} h => by
    obtain ⟨o, es, ep, e, d, r⟩ := h
    exact ⟨o, es, ep, basis e (none_of b o e (fun v n z => by rw [d] at z; cases z) fun z => by rw [d] at z; cases z), d, r⟩
  have inK : K.In (hidT s.heap H) := fun b o e => basis (KX b o e) (by
    cases q : H b with
    | none => rfl
    | some u =>
      rcases track b u q with ⟨m, _⟩ | ⟨rfl, n, _⟩
      · obtain ⟨p, hp, rfl⟩ := List.mem_map.mp m
        rw [nT p hp] at e
        cases e
      · rw [n] at e
        cases e)
  have md : L2.Mod K mg (hidT s.heap H) := ⟨inK, dicts hns, ⟨mb, dicts hb, hbb⟩, by
    obtain ⟨mc, h1, h2⟩ := hlim
    exact ⟨mc, dicts h1, h2⟩⟩
  have tb : ∀ p ∈ cs, LamX.TabB (hidT s.heap H) mg p.1 p.2 := fun p hp => by
    have e2 := hT p hp
    refine ⟨?_, ?_, fun z => ?_⟩
    · obtain ⟨o, us, file, tf, flags, tg, inF, text, tt, c1, c2, c3, c4, c5⟩ := C p hp
      exact ⟨o, us, file, tf, flags, tg, inF, text, tt, basis c1 (none_of p.1 o c1 (fun v n z => by rw [c3] at z; cases z) fun z => by rw [c3] at z; cases z; simp at c4), c2, c3, c4, c5⟩
    · obtain ⟨bm, ob, m1, m2, m3, m4, m5, m6⟩ := hbm
      refine ⟨bm, ob, m1, m2, fun z => ?_, fun z => ?_, basis m3 (none_of bm ob m3 (fun v n z => by rw [m6] at z; cases z) fun z => by rw [m6] at z; cases z), m4, m5, m6⟩
      · obtain ⟨o, es, ep, e, d, _⟩ := hns
        rw [z, e] at m3
        cases m3
        rw [d] at m6
        cases m6
      · rw [z, e2] at m3
        cases m3
        cases m6
    · obtain ⟨o, es, ep, e, d, _⟩ := hns
      rw [z, e2] at e
      cases e
      cases d
  have e0 : Env0 P w K mg (hidT s.heap H) callerA [] s H := ⟨rfl, md, fun b o e => of_hidT e, Nat.le_of_eq (hidT_size _ _), trivial, (fun b hb => by cases hb), hok, AllBare.of_eq hg⟩
  refine codeAny_mono ((F _ inK tb).run callerA [] s H ⟨[.ref a], []⟩ [.ref a] [.ref a] _ _ rfl hr e0 (hbind s (.ref a)) (.cons rfl .nil) hsp) fun r s' got => ?_
  match r, got with
  | .error err, got =>
    obtain ⟨_, _, _, _, _, _, _, _, _, _, _, _, z⟩ := got
    exact z.elim
  | .ok (.ret u), got =>
    obtain ⟨v, H', os, bare, un, hok', r', q⟩ := got
    have q : v = .bl true := q
    subst q
    obtain rfl : u = Value.bool true := r'
    have same : ∀ b o, b ∉ cs.map (·.2) → s.heap.get? b = some o → s'.heap.get? b = some o := fun b o nb e => by
      cases q : H b with
      | none => exact un.keep b o e q (fun z => by cases z) (fun z => by cases z)
      | some u =>
        rcases track b u q with ⟨m, _⟩ | ⟨rfl, _, rfl⟩
        · exact absurd m nb
        · have h2 := (hok' b _ (un.frzs b _ _ q)).1
          rw [ha] at e
          cases e
          exact h2
    have more : ∀ p ∈ cs, ∃ ps : Array Value, s'.heap.get? p.2 = some { cls := .none, data := .fields ps } := fun p hp => by
      have e : H p.2 = some (.tbl #[]) := by
        rw [← hH]
        exact if_pos (List.mem_map.mpr ⟨p, hp, rfl⟩)
      obtain ⟨ps, z⟩ := un.tbls p.2 #[] e
      exact ⟨_, hok' p.2 _ z⟩
    refine ⟨rfl, ⟨fun b o e => ?_, fun b o e => ?_⟩, os, bare⟩
    · by_cases hb : b ∈ cs.map (·.2)
      · obtain ⟨p, hp, rfl⟩ := List.mem_map.mp hb
        obtain ⟨ps, z⟩ := more p hp
        have e2 := hT p hp
        rw [e2] at e
        cases e
        exact .inr (.inl ⟨((C p hp).tab e2).isCodeTable, rfl, #[], ps, rfl, by rw [Array.empty_append]; exact z⟩)
      · exact .inl (same b o hb e)
    · by_cases hb : b ∈ cs.map (·.2)
      · obtain ⟨p, hp, rfl⟩ := List.mem_map.mp hb
        obtain ⟨ps, z⟩ := more p hp
        exact ⟨_, z⟩
      · exact ⟨o, same b o hb e⟩
end
theorem walk_dlG {l : PySem.W.OpenLaw} {n k : Nat} {q : Program} {loose : List Str} {XP : (Str → Option Value) → Heap → Prop} {YP : World → Heap → Prop} {d : DefRec} {x nm : Str} {F : FM} {tf : List Str}
    (hn : l.most = some n) (hn2 : n ≤ sizeLine) (hdf : d.params.defaults = []) (hr : Room k callerA) (hd : d.name = nm)
    (HF : ∀ ns : List Int, ns.length ≤ n → ∃ m, F [.list (ns.map .int)] [] = .ok (.bool true) m)
    (HK : ∀ (w : World) (mg : Str → Option Value) (h : Heap), YP w h → h.Ns mainGlobals mg → ∃ (K : PySem.W.Frag) (fd : FuncData), K.In h ∧ (∀ x ∈ tf, h.get? (cT K (x, none)).2 = some emptyO) ∧ (∀ x ∈ tf, K.lookup (cT K (x, none)).2 = none) ∧ (∀ x ∈ tf, PySem.W.codeHdIn K (cT K (x, none)).1 (cT K (x, none)).2 = true) ∧
      (∀ (s : Shared) (u : Value), BindsTo s fd ⟨[u], []⟩ [(x, u)]) ∧ mg nm = some (.ref (He.ga K nm)) ∧
      ∀ base : Heap, TBs K base mg tf → FnG l.prog w K mg base (L2.CX l.prog w) k (He.ga K nm) fd [x] (callP K (true, TTof K tf) F 1)) :
    PySem.W.WalkO q loose XP YP l.row.toRowW d [] (fun f vs => PySem.call f vs) := by
  refine Att.attach_callB hn hdf fun w s₀ s₁ mg mb fa o pm cd doc a vs ns G Y ho hdd hcd hmg hobj hints hlen hbits hg => ?_
  obtain ⟨K, fd, KX, hE, hN, hC, hb, hm, hF⟩ := HK w mg _ Y G.T.g
  rw [hd] at hmg
  have e := hmg.symm.trans hm
  cases e
  have rv := vals_ints hints
  have hl : (ns.map V.int).length ≤ sizeLine := by rw [List.length_map]; exact Nat.le_trans hlen hn2
  have pk : ∀ (Z : Addr × Addr → Prop), (∀ x ∈ tf, Z (cT K (x, none))) → ∀ p ∈ tf.map (fun x => cT K (x, none)), Z p := fun Z h p hp => by
    obtain ⟨x, hx, rfl⟩ := List.mem_map.mp hp
    exact h x hx
  have aT : a ∉ (tf.map fun x => cT K (x, none)).map (·.2) := fun z => by
    obtain ⟨p, hp, e⟩ := List.mem_map.mp z
    obtain ⟨x, hx, rfl⟩ := List.mem_map.mp hp
    have h1 := hE x hx
    rw [e, hobj] at h1
    cases h1
  refine law_callG (xs := ns.map V.int) (cs := tf.map fun x => cT K (x, none)) (sp := callP K (true, TTof K tf) F 1) KX G.T.g G.T.b G.T.builtins G.T.nolimit hg (pk _ hE) (pk (fun p => K.lookup p.2 = none) hN) (pk (fun p => PySem.W.CodeHd s₁.heap p.1 p.2) fun x hx => PySem.W.codeHd_of_K KX (hC x hx)) G.T.bmain hobj rv hl hr (fun base KB hTB => hF base fun x hx => hTB _ (List.mem_map.mpr ⟨x, hx, rfl⟩)) hb ?_
  obtain ⟨m, hm⟩ := HF ns hlen
  refine ⟨rfl, [], [], [.list (ns.map .int)], rel_zero (fun p hp => ?_), ?_, ?_⟩
  · obtain ⟨x, hx, rfl⟩ := List.mem_map.mp hp
    exact LamX.TabS.nil (if_pos (List.mem_map.mpr ⟨cT K (x, none), List.mem_map.mpr ⟨x, hx, rfl⟩, rfl⟩))
  · have hz : FzL K (startH K ((tf.map fun x => cT K (x, none)).map (·.2)) a vs (ns.map V.int)) a (ns.map V.int) := by
      cases hk : K.lookup a with
      | none => exact .inl ⟨lstO vs, by unfold startH; rw [if_neg aT, if_pos ⟨rfl, hk⟩]⟩
      | some o =>
        have hh := (KX _ _ hk).symm.trans hobj
        cases hh
        exact .inr ⟨_, _, hk, by rw [List.size_toArray, ← rv.length]; exact hl, by simpa using rv⟩
    simp only [RpAll]
    exact ⟨_, _, rfl, rp_lst hz rp_ints, rfl⟩
  · rw [hm]
    intro v ca' H' _ _ hv
    simpa only [Rp] using hv
end DL
namespace DL
open PySem PySem.Spec PyProof.Rows L2
end DL
namespace DL
open PySem PySem.Spec PyProof.Rows L2
section
variable {X : Cx} {pins : List (Addr × Obj)} {σ : L2.St} {H : Hp} {s : Shared} {ca : CA} {a : Addr} {xs : List NE} {kvs : List (W × W)} {K : PySem.W.Frag}
theorem frzF {o : Obj} (I : Inv X pins σ H s) (h : H a = some (.frz o (.frz o (DX a xs)))) :
    s.heap.get? a = some o ∧ o.ExactDict ∧ ∃ (es : Array DictEntry) (ep : Nat), o.data = .dict es ep ∧ es.toList = xs.map fun x => (⟨nhash x.1, .ref x.2.1, x.2.2⟩ : DictEntry) := by
  obtain ⟨hd, _, ⟨o', es, ep, ho, hx, hdt, he⟩, _, _⟩ := I.hok a _ h
  rw [hd] at ho
  cases ho
  exact ⟨hd, hx, es, ep, hdt, he⟩
end
def lookN : List (W × W) → W → Option W
  | [], _ => none
  | (k, x) :: r, q => if keqN k q = true then some x else lookN r q
theorem RpN.look {K : PySem.W.Frag} {ca : CA} {H : Hp} {k : W} {q : NestedKey} (hq : nkey k = some q) : ∀ {kvs : List (W × W)} {xs : List NE}, RpN K ca H kvs xs →
    (lookN kvs k = none ∧ atKey xs q = none) ∨ ∃ w b u v, lookN kvs k = some w ∧ atKey xs q = some (b, u) ∧ RelV v u ∧ Rp K ca H w v
  | [], xs, h => by
    simp only [RpN] at h
    subst h
    exact .inl ⟨rfl, rfl⟩
  | (k', y) :: r, xs, h => by
    simp only [RpN] at h
    obtain ⟨q', b, u, v, t, rfl, h1, h2, h3, h4, h5, h6⟩ := h
    unfold lookN
    rw [keqN_eq h1 hq]
    by_cases e : q' = q
    · rw [decide_eq_true e, if_pos rfl]
      exact .inr ⟨y, b, u, v, rfl, by simp [atKey, e], h4, h5⟩
    · rw [decide_eq_false e, if_neg (by decide)]
      rcases RpN.look hq h6 with ⟨e1, e2⟩ | ⟨w, b', u', v', e1, e2, e3, e4⟩
      · exact .inl ⟨e1, by simpa [atKey, e] using e2⟩
      · exact .inr ⟨w, b', u', v', e1, by simpa [atKey, e] using e2, e3, e4⟩
section
variable {D : DC} {Wx : WX} {X : Cx}
theorem RpN.at {K : PySem.W.Frag} {ca : CA} {H : Hp} : ∀ {kvs : List (W × W)} {xs : List NE} {i : Nat} {e : NE}, RpN K ca H kvs xs → xs[i]? = some e → ∃ k x v, kvs[i]? = some (k, x) ∧ Rp K ca H k (.ref e.2.1) ∧ RelV v e.2.2 ∧ Rp K ca H x v
  | [], xs, i, e, h, he => by simp only [RpN] at h; subst h; simp at he
  | (k, x) :: r, xs, i, e, h, he => by
    simp only [RpN] at h
    obtain ⟨q, b, u, v, t, rfl, h1, h2, h3, h4, h5, h6⟩ := h
    cases i with
    | zero => simp at he; subst he; exact ⟨k, x, v, rfl, h3, h4, h5⟩
    | succ i =>
      obtain ⟨k', y, v', e1, e2⟩ := RpN.at (i := i) h6 (by simpa using he)
      exact ⟨k', y, v', by simpa using e1, e2⟩
end
end DL
namespace DL
open PySem PySem.Spec PyProof.Rows L2
end DL
namespace DL
open PySem PySem.Spec PyProof.Rows L2
end DL
namespace DL
open PySem PySem.Spec PyProof.Rows L2
end DL
namespace DL
open PySem PySem.Spec PyProof.Rows L2
end DL
namespace DL
open PySem PySem.Spec PyProof.Rows L2
end DL
namespace DL
open PySem PySem.Spec PyProof.Rows L2
end DL
namespace DL
open PySem PySem.Spec PyProof.Rows L2
end DL
namespace DL
open PySem PySem.Spec PyProof.Rows L2
end DL
namespace DL
open PySem PySem.Spec PyProof.Rows L2
end DL
namespace DL
open PySem PySem.Spec PyProof.Rows L2
end DL
namespace DL
open PySem PySem.Spec PyProof.Rows L2
end DL
namespace DL
open PySem PySem.Spec PyProof.Rows L2
end DL
namespace DL
open PySem PySem.Spec PyProof.Rows L2
end DL
namespace DL
open PySem PySem.Spec PyProof.Rows L2
def dtD : Nat → W → Bool
  | _, .none => true
  | _, .bool _ => true
  | _, .int _ => true
  | _, .str _ => true
  | _, .dict [] => true
  | n + 1, .tuple xs => xs.all (dtD n)
  | _, _ => false
def reprOkD (w : W) : Bool := dtD 60 w && (w.showable && (Nat.ble w.depth 60 && Nat.ble w.shown.length sizeLine))
def gReprD : List W → Option W
  | [w] => if reprOkD w = true then some (.str w.shown) else none
  | _ => none
def gReprA (ws : List W) : Option W := (gRepr ws).or (gReprD ws)
section
variable {X : Cx} {D : DC} {pins : List (Addr × Obj)} {σ : L2.St} {H : Hp} {s : Shared}
theorem readsD_all (I : Inv X pins σ H s) {ca : CA} {n : Nat} (ih : ∀ (w : W) (v : V) (u : Value), dtD n w = true → Rp X.K ca H w v → RelV v u → ∃ as, Reads s.heap u w as ∧ sysModules ∉ as) : ∀ (ws : List W) (vs : List V) (us : List Value), ws.all (dtD n) = true → RpAll X.K ca H ws vs → Vals vs us → ∃ as, ReadsAll s.heap us ws as ∧ sysModules ∉ as
  | [], vs, us, _, h, r => by
    simp only [RpAll] at h
    subst h
    cases r
    exact ⟨_, .nil, by simp⟩
  | x :: xs, vs, us, c, h, r => by
    simp only [RpAll] at h
    obtain ⟨v, t, rfl, h1, h2⟩ := h
    rw [List.all_cons, Bool.and_eq_true] at c
    cases r with
    | cons r1 r2 =>
      obtain ⟨as, a1, a2⟩ := ih x v _ c.1 h1 r1
      obtain ⟨bs, b1, b2⟩ := readsD_all I ih xs t _ c.2 h2 r2
      exact ⟨_, .cons a1 b1, fun z => (List.mem_append.mp z).elim a2 b2⟩
theorem readsD (I : Inv X pins σ H s) {ca : CA} : ∀ (n : Nat) (w : W) (v : V) (u : Value), dtD n w = true → Rp X.K ca H w v → RelV v u → ∃ as, Reads s.heap u w as ∧ sysModules ∉ as := by
  have dict0 : ∀ (v : V) (u : Value), Rp X.K ca H (.dict []) v → RelV v u → ∃ as, Reads s.heap u (.dict []) as ∧ sysModules ∉ as := fun v u p r => by
    obtain ⟨a, ps, rfl, ⟨o, f⟩, rk⟩ := p.fzd (by rfl)
    cases r
    have hps : ps = [] := by
      have := rk.length
      exact List.eq_nil_of_length_eq_zero this
    subst hps
    obtain ⟨_, lo, vs, kv, dd⟩ := dk_rd I.hok (.inr ⟨o, f⟩)
    obtain ⟨es, ep, ⟨ob, e1, e2, e3⟩, hsz, _⟩ := dd.raw
    have hvs : vs = [] := by cases kv; rfl
    subst hvs
    have hes : es.toList = [] := by
      apply List.eq_nil_of_length_eq_zero
      rw [Array.length_toList, hsz]
      rfl
    refine ⟨a :: [] ++ [], .dict e1 e2.1 e3 (by rw [hes]; exact .nil) (by rw [hes]; exact .nil), fun z => ?_⟩
    have z : sysModules ∈ [a] := by simpa using z
    rw [List.mem_singleton] at z
    rw [z] at lo
    simp at lo
  have flat : ∀ (w : W) (v : V) (u : Value), (w = .none ∨ (∃ b, w = .bool b) ∨ (∃ i, w = .int i) ∨ ∃ x, w = .str x) → Rp X.K ca H w v → RelV v u → ∃ as, Reads s.heap u w as ∧ sysModules ∉ as := fun w v u hw p r => by
    rcases hw with rfl | ⟨b, rfl⟩ | ⟨i, rfl⟩ | ⟨x, rfl⟩
    · rw [p.none] at r
      cases r
      exact ⟨_, .none, by simp⟩
    · rw [p.bool] at r
      cases r
      exact ⟨_, .bool b, by simp⟩
    · rw [p.int] at r
      obtain ⟨t, rfl⟩ := r
      exact ⟨_, .int i t, by simp⟩
    · rw [p.str] at r
      obtain ⟨t, rfl⟩ := r
      exact ⟨_, .str x t, by simp⟩
  intro n
  induction n with
  | zero =>
    intro w v u c p r
    cases w with
    | none => exact flat _ v u (.inl rfl) p r
    | bool b => exact flat _ v u (.inr (.inl ⟨b, rfl⟩)) p r
    | int i => exact flat _ v u (.inr (.inr (.inl ⟨i, rfl⟩))) p r
    | str x => exact flat _ v u (.inr (.inr (.inr ⟨x, rfl⟩))) p r
    | list xs => cases c
    | tuple xs => cases c
    | dict kvs =>
      cases kvs with
      | nil => exact dict0 v u p r
      | cons a b => cases c
  | succ n ih =>
    intro w v u c p r
    cases w with
    | none => exact flat _ v u (.inl rfl) p r
    | bool b => exact flat _ v u (.inr (.inl ⟨b, rfl⟩)) p r
    | int i => exact flat _ v u (.inr (.inr (.inl ⟨i, rfl⟩))) p r
    | str x => exact flat _ v u (.inr (.inr (.inr ⟨x, rfl⟩))) p r
    | list xs => cases c
    | tuple xs =>
      obtain ⟨a, vs, rfl, f, ra⟩ := p.tup
      cases r
      obtain ⟨its, rv, ⟨o, ho, hc, k, hd⟩, _⟩ := I.tuple f.sq
      obtain ⟨as, h1, h2⟩ := readsD_all I ih xs vs its c ra rv
      exact ⟨as, .tuple ho hc hd h1, h2⟩
    | dict kvs =>
      cases kvs with
      | nil => exact dict0 v u p r
      | cons a b => cases c
theorem dc_reprD (hK : D.K = X.K) (hgd : X.A.guards = some []) (hu : X.A.units + 65 < cLine) : DCall D X (.builtin "repr") gReprD := fun pins s σ ca H xs us ws w Q I r p e q => by
  match ws, e, p with
  | [d], e, p =>
    have e : (if reprOkD d = true then some (PyData.str d.shown) else none) = some w := e
    by_cases hd : reprOkD d = true
    · rw [if_pos hd] at e
      cases e
      obtain ⟨c1, c2⟩ := He.ba hd
      obtain ⟨c2, c3⟩ := He.ba c2
      obtain ⟨c3, c4⟩ := He.ba c3
      have c3 := Nat.le_of_ble_eq_true c3
      have c4 := Nat.le_of_ble_eq_true c4
      obtain ⟨v, rfl, pv⟩ := p.inv1
      obtain ⟨u, rfl, rv⟩ := vals1 r
      rw [hK] at pv
      obtain ⟨as, rd, hsm⟩ := readsD I 60 d v u c1 pv rv
      have fin : ∀ (h' : Heap) (tu : Tok) (tk : Nat), (∀ b o, s.heap.get? b = some o → h'.get? b = some o) → EP X pins σ Q (.str d.shown tu) { s with heap := h', toks := tk } := fun h' tu tk hk => ⟨.str d.shown, H, I.kept (t' := tk) hk, ⟨tu, rfl⟩, q _ H (fun _ _ h => h) rp_str⟩
      have ref : ∀ a : Addr, u = .ref a → wpAny (model X.prog X.w) X.A (call (.builtin "repr") [u]) (EP X pins σ Q) X.xe s := fun a e => by
        subst e
        exact repr_of_reads' rd c2 (fun _ => hsm) hgd (by omega) (fun _ _ h => h) (fun h' tu tk hk => fin h' tu tk hk) c4
      cases rd with
      | none => exact PySem.P.repr_of_none (fin s.heap _ _ fun _ _ h => h)
      | bool => exact PySem.P.repr_of_bool (fin s.heap _ _ fun _ _ h => h)
      | int => exact PySem.P.repr_of_int (of_decide_eq_true c2) (fin s.heap _ _ fun _ _ h => h)
      | str => exact PySem.P.repr_of_str (fin s.heap _ _ fun _ _ h => h) c4
      | _ => exact ref _ rfl
    · rw [if_neg hd] at e; cases e
theorem dc_reprA (hK : D.K = X.K) (hgd : X.A.guards = some []) (hu : X.A.units + 65 < cLine) : DCall D X (.builtin "repr") gReprA := (dc_repr hK hgd hu).or (dc_reprD hK hgd hu)
end
end DL
namespace DL
open PySem PySem.Spec PyProof.Rows L2
end DL
namespace DL
open PySem PySem.Spec PyProof.Rows L2
theorem upd_upd {H : Hp} {p : Addr} {o o' : HO} : upd (upd H p o) p o' = upd H p o' := by
  funext b
  unfold upd
  split <;> rfl
end DL
namespace DL
open PySem PySem.Spec PyProof.Rows L2
end DL
namespace DL
open PySem PySem.Spec PyProof.Rows L2
end DL
namespace DL
open PySem PySem.Spec PyProof.Rows L2
end DL
namespace DL
open PySem PySem.Spec PyProof.Rows L2
end DL
namespace DL
open PySem PySem.Spec PyProof.Rows L2
/-- a dict of tuple keys, frozen or not -/
def DXat (H : Hp) (a : Addr) (xs : List NE) : Prop := (a == sysModules) = false ∧ (xs.map (·.1)).Nodup ∧ (H a = some (DX a xs) ∨ ∃ o, H a = some (.frz o (.frz o (DX a xs))))
theorem FzX.at {H : Hp} {a : Addr} {xs : List NE} (f : FzX H a xs) : DXat H a xs := ⟨f.1, f.2.2.1, .inr f.2.2.2⟩
section
variable {X : Cx} {pins : List (Addr × Obj)} {σ : L2.St} {H : Hp} {s : Shared} {ca : CA} {a : Addr} {xs : List NE} {kvs : List (W × W)}
theorem DXat.dict (I : Inv X pins σ H s) (d : DXat H a xs) (r : RpN X.K ca H kvs xs) : s.heap.DictOfH (nestedKind X.prog X.w) a xs := by
  obtain ⟨_, nd, h | ⟨o, h⟩⟩ := d
  · exact dict_of I rfl h nd r
  · obtain ⟨h1, h2, es, ep, h3, h4⟩ := frzF I h
    have hi := rpn_is I rfl r
    refine ⟨o, es, ep, h1, h2, h3, ?_, fun x hx => (hi x hx).1, nd⟩
    rw [h4]
    refine List.map_congr_left fun x hx => ?_
    show (⟨nhash x.1, .ref x.2.1, x.2.2⟩ : DictEntry) = ⟨NestedKey.hash X.w x.1, .ref x.2.1, x.2.2⟩
    rw [(hi x hx).2]
end
section
variable {D : DC} {Wx : WX} {X : Cx} {o e e2 : Expr} {mo me mf : EM} {apos cpos : Pos}
theorem NestAt.dx {K : PySem.W.Frag} {ca : CA} {H : Hp} {p : Addr} {kvs : List (W × W)} (n : NestAt K ca H p kvs) : ∃ xs, DXat H p xs ∧ RpN K ca H kvs xs := by
  obtain ⟨n1, n2, xs, n3, n4, n5⟩ := n
  exact ⟨xs, ⟨n1, n4, .inl n3⟩, n5⟩
end
end DL
namespace DL
open PySem PySem.Spec PyProof.Rows L2
end DL
namespace DL
open PySem PySem.Spec PyProof.Rows L2
end DL
namespace DL
open PySem PySem.Spec PyProof.Rows L2
end DL
namespace DL
open PySem PySem.Spec PyProof.Rows L2
end DL
namespace DL
open PySem PySem.Spec PyProof.Rows L2
theorem rp_hnd {K : PySem.W.Frag} {ca : CA} {H : Hp} {k : Nat} {v : V} (p : Rp K ca H (hnd k) v) : ∃ a as, ca[k]? = some (a :: as) ∧ v = .ref a := by
  have p : Rp K ca H (.dict [(.none, .int (k : Int))]) v := p
  simp only [Rp] at p
  rcases p with ⟨k', a', as, ek, ec, rfl⟩ | ⟨p, ps, _, _, rk⟩ | q
  rotate_right
  · obtain ⟨m, r, a, xs, z, _⟩ := q.inv
    cases z
  · have ek : k' = k := by have := ek.symm; simp at this; omega
    subst ek
    exact ⟨a', as, ec, rfl⟩
  · simp only [RpKv] at rk
    obtain ⟨q', _, _, _, e, _⟩ := rk
    cases q' <;> simp [kW] at e
theorem hnd_rp {K : PySem.W.Frag} {ca : CA} {H : Hp} {k : Nat} {a : Addr} {as : List Addr} (h : ca[k]? = some (a :: as)) : Rp K ca H (hnd k) (.ref a) := by
  show Rp K ca H (.dict [(.none, .int (k : Int))]) (.ref a)
  simp only [Rp]
  exact .inl ⟨k, a, as, rfl, h, rfl⟩
theorem RpFs.length {K : PySem.W.Frag} {ca : CA} {H : Hp} : ∀ {fs : List (Str × W)} {fs' : List (Str × V)}, RpFs K ca H fs fs' → fs'.length = fs.length
  | [], fs', h => by simp only [RpFs] at h; subst h; rfl
  | (k, x) :: r, fs', h => by
    simp only [RpFs] at h
    obtain ⟨v, t, rfl, h1, h2⟩ := h
    simp [RpFs.length h2]
end DL
namespace DL
open PySem PySem.Spec PyProof.Rows L2
mutual
/-- no handle within -/
def nh : W → Bool
  | .none => true
  | .bool _ => true
  | .int _ => true
  | .str _ => true
  | .list xs => nhs xs
  | .tuple xs => nhs xs
  | .dict kvs => nhd kvs
def nhs : List W → Bool
  | [] => true
  | x :: xs => nh x && nhs xs
def nhd : List (W × W) → Bool
  | [] => true
  | (k, x) :: r => (match k with
    | .none => false
    | _ => true) && (nh k && (nh x && nhd r))
end
def nhf : List (Str × W) → Bool
  | [] => true
  | (_, x) :: r => nh x && nhf r
theorem a3 {a b c : Bool} (h : (a && (b && c)) = true) : a = true ∧ b = true ∧ c = true := by
  rw [Bool.and_eq_true, Bool.and_eq_true] at h
  exact h
mutual
theorem Rp.noH {K : PySem.W.Frag} {ca ca' : CA} {H : Hp} : ∀ (w : W) (v : V), nh w = true → Rp K ca H w v → Rp K ca' H w v
  | .none, v, _, h => by simpa only [Rp] using h
  | .bool b, v, _, h => by simpa only [Rp] using h
  | .int b, v, _, h => by simpa only [Rp] using h
  | .str b, v, _, h => by simpa only [Rp] using h
  | .list xs, v, n, h => by
    simp only [Rp] at h ⊢
    obtain ⟨a, vs, e, f, r⟩ := h
    exact ⟨a, vs, e, f, RpAll.noH xs vs (by simpa only [nh] using n) r⟩
  | .tuple xs, v, n, h => by
    simp only [Rp] at h ⊢
    obtain ⟨a, vs, e, f, r⟩ := h
    exact ⟨a, vs, e, f, RpAll.noH xs vs (by simpa only [nh] using n) r⟩
  | .dict kvs, v, n, h => by
    simp only [Rp] at h ⊢
    have n : nhd kvs = true := by simpa only [nh] using n
    rcases h with ⟨k, a, as, e1, e2, e3⟩ | ⟨a, ps, e, f, r⟩ | h
    · subst e1
      simp [nhd] at n
    · exact .inr (.inl ⟨a, ps, e, f, RpKv.noH kvs ps n r⟩)
    · exact .inr (.inr (RpX.noH kvs v n h))
theorem RpX.noH {K : PySem.W.Frag} {ca ca' : CA} {H : Hp} : ∀ (xs : List (W × W)) (v : V), nhd xs = true → RpX K ca H xs v → RpX K ca' H xs v
  | [], v, _, h => by simp only [RpX] at h
  | (m, y) :: r, v, n, h => by
    simp only [RpX] at h ⊢
    simp only [nhd] at n
    rw [Bool.and_eq_true] at n
    obtain ⟨_, _, n3⟩ := a3 n.2
    obtain ⟨e, a, ys, ev, f, h⟩ := h
    exact ⟨e, a, ys, ev, f, RpN.noH r ys n3 h⟩
theorem RpN.noH {K : PySem.W.Frag} {ca ca' : CA} {H : Hp} : ∀ (xs : List (W × W)) (ys : List NE), nhd xs = true → RpN K ca H xs ys → RpN K ca' H xs ys
  | [], ys, _, h => by simpa only [RpN] using h
  | (k, y) :: r, ys, n, h => by
    simp only [RpN] at h ⊢
    simp only [nhd] at n
    rw [Bool.and_eq_true] at n
    obtain ⟨n1, n2, n3⟩ := a3 n.2
    obtain ⟨q, b, u, v, t, e, h1, h2, h3, h4, h5, h6⟩ := h
    exact ⟨q, b, u, v, t, e, h1, h2, Rp.noH _ _ n1 h3, h4, Rp.noH _ _ n2 h5, RpN.noH _ _ n3 h6⟩
theorem RpAll.noH {K : PySem.W.Frag} {ca ca' : CA} {H : Hp} : ∀ (xs : List W) (vs : List V), nhs xs = true → RpAll K ca H xs vs → RpAll K ca' H xs vs
  | [], vs, _, h => by simpa only [RpAll] using h
  | y :: ys, vs, n, h => by
    simp only [RpAll] at h ⊢
    simp only [nhs] at n
    rw [Bool.and_eq_true] at n
    obtain ⟨v, r, e, h1, h2⟩ := h
    exact ⟨v, r, e, Rp.noH y v n.1 h1, RpAll.noH ys r n.2 h2⟩
theorem RpKv.noH {K : PySem.W.Frag} {ca ca' : CA} {H : Hp} : ∀ (xs : List (W × W)) (vs : List (Key × V)), nhd xs = true → RpKv K ca H xs vs → RpKv K ca' H xs vs
  | [], vs, _, h => by simpa only [RpKv] using h
  | (k, y) :: ys, vs, n, h => by
    simp only [RpKv] at h ⊢
    simp only [nhd] at n
    rw [Bool.and_eq_true] at n
    obtain ⟨n1, n2, n3⟩ := a3 n.2
    obtain ⟨q, v, r, e, ek, h1, h2⟩ := h
    exact ⟨q, v, r, e, ek, Rp.noH y v n2 h1, RpKv.noH ys r n3 h2⟩
end
theorem RpFs.noH {K : PySem.W.Frag} {ca ca' : CA} {H : Hp} : ∀ (xs : List (Str × W)) (vs : List (Str × V)), nhf xs = true → RpFs K ca H xs vs → RpFs K ca' H xs vs
  | [], vs, _, h => by simpa only [RpFs] using h
  | (k, y) :: ys, vs, n, h => by
    simp only [RpFs] at h ⊢
    simp only [nhf] at n
    rw [Bool.and_eq_true] at n
    obtain ⟨v, r, e, h1, h2⟩ := h
    exact ⟨v, r, e, Rp.noH y v n.1 h1, RpFs.noH ys r n.2 h2⟩
section
variable {D : DC} {ca : CA} {σ : L2.St} {H : Hp} {ms : MS}
theorem Rel.base0 (r : Rel D ca σ H ms) : Rel (cb D.K H [] (true, D.sx.2)) [] [] H ⟨[], []⟩ :=
  ⟨rfl, fun k c as e1 e2 => by simp at e1, by simp, List.prefix_refl _, fun b o e _ _ => untab_of e, fun b hb => by simp at hb, rfl, fun i x e => by simp at e, fun i j v _ e => by simp [Sl.isOwn] at e, fun b hb => by
    have hb : b ∈ ([] : CA).flatten := hb
    simp at hb, fun i p e => by simp [Sl.isOwn] at e, r.tb, fun b ps e => untab_tbl e⟩
theorem Rel.behind0 (r : Rel D ca σ H ms) {ca' : CA} {H' : Hp} {σ' : L2.St} {m' : MS} (r' : Rel (cb D.K H [] (true, D.sx.2)) ca' σ' H' m') : Ext ca H ca H' ∧ Rel D ca σ H' ms := by
  have same : ∀ b o, H b = some o → (∀ ps, o ≠ .tbl ps) → H' b = some o := fun b o e hz => r'.fr b o (untab_at e hz) hz fun _ hb => by
    have hb : b ∈ ([] : CA).flatten := hb
    simp at hb
  have kp : Kp H H' := ⟨fun b xs e => same b _ e (fun ps z => by cases z), fun b o u e => same b _ e (fun ps z => by cases z)⟩
  have x : Ext ca H ca H' := ⟨kp, List.prefix_refl _⟩
  refine ⟨x, r.len, fun k c as e1 e2 => ?_, r.nd, r.pre, fun b o e hz hn => ?_, r.new, r.slen, fun i y e => ?_, r.sep, r.c0, r.oca, r'.tb, r.fb⟩
  · exact (r.cells k c as e1 e2).at_ kp fun b hb o h => same b o h ((r.cells k c as e1 e2).notab b hb o h).1
  · exact same b o (r.fr b o e hz hn) hz
  · obtain ⟨v, e1, q⟩ := r.slots i y e
    refine ⟨v, e1, ?_⟩
    cases y with
    | fz w => exact Rp.mono x _ _ q
    | pin w => exact q
    | ow xs =>
      obtain ⟨p, rfl, h0, vs, a, b⟩ := q
      exact ⟨p, rfl, h0, vs, same _ _ a nt_lst, RpAll.mono x _ _ b⟩
    | od xs =>
      obtain ⟨p, rfl, h0, vs, a, b⟩ := q
      exact ⟨p, rfl, h0, vs, same _ _ a nt_dK, RpKv.mono x _ _ b⟩
    | on xs =>
      obtain ⟨p, rfl, h0, s1, s2, vs, a, nn, b⟩ := q
      exact ⟨p, rfl, h0, s1, s2, vs, same _ _ a (NoTab.dx (p := p)).1, nn, RpN.mono x _ _ b⟩
end
def eCallL (F : FM) (l : LM) : EM := fun m => (l m).bind fun ws m => if nhs ws = true then (match F ws [] with
  | .ok w _ => if nh w = true then .ok w m else .bad
  | .err c fs _ => if nhf fs = true then .err c fs m else .bad
  | .bad => .bad) else .bad
section
variable {D : DC} {Wx : WX} {X : Cx} {k n : Nat} {f : Addr} {fd : FuncData} {ps : List Str} {F : FM} {x : Str} {p pos : Pos} {e : Expr} {es : List Expr} {l : LM}
theorem callL_of {σ : L2.St} {H : Hp} {Q : VK} (hK : D.K = X.K) (hn : ∀ ws m m', l m = .ok ws m' → ws.length = n) (h : RdE D Wx (eCallL F l) σ H Q) :
    RdA D Wx l σ H fun vs H1 => callP X.K (true, D.sx.2) F n (vs ++ []) H1 Q (WE Wx σ) := by
  obtain ⟨ca, ms, r, h⟩ := h
  have h' : Po D Wx σ ca H ((l ms).bind fun ws m => if ws.length = n then (if nhs ws = true then (match F ws [] with
  | .ok w _ => if nh w = true then .ok w m else .bad
  | .err c fs _ => if nhf fs = true then .err c fs m else .bad
  | .bad => .bad) else .bad) else .bad) (EQ D σ ca H Q) := by
    unfold eCallL at h
    cases e : l ms with
    | ok ws m =>
      rw [e] at h
      have hl := hn _ _ _ e
      show Po D Wx σ ca H (if ws.length = n then _ else _) _
      rw [if_pos hl]
      exact h
    | err c fs m => rw [e] at h; exact h
    | bad => rw [e] at h; exact h
  refine RdA.bind r h' fun ws vs ms1 ca1 H1 x1 r1 p1 h1 => ?_
  by_cases hl : ws.length = n
  · rw [if_pos hl] at h1
    by_cases hw : nhs ws = true
    · rw [if_pos hw] at h1
      rw [List.append_nil]
      have rb := r1.base0
      rw [hK] at rb p1
      refine ⟨by rw [p1.length]; exact hl, [], [], ws, rb, RpAll.noH _ _ hw p1, ?_⟩
      cases ef : F ws [] with
      | ok w m' =>
        rw [ef] at h1
        dsimp only at h1
        by_cases hh : nh w = true
        · rw [if_pos hh] at h1
          refine fun v ca' H' x' r' pv => ?_
          rw [← hK] at r' pv
          obtain ⟨xx, rr⟩ := r1.behind0 (m' := ⟨[], m'.cells⟩) r'
          exact h1 v ca1 H' (x1.trans xx) rr (Rp.noH _ _ hh pv)
        · rw [if_neg hh] at h1
          exact h1.elim
      | err c fs m' =>
        rw [ef] at h1
        dsimp only at h1
        by_cases hh : nhf fs = true
        · rw [if_pos hh] at h1
          refine fun cls d σ' ca' H' x' r' er => ?_
          have r' : Rel (cb X.K H1 [] (true, D.sx.2)) ca' σ' H' m' := r'
          rw [← hK] at r'
          obtain ⟨xx, rr⟩ := r1.behind0 r'
          obtain ⟨ec, dd, fs', ed, eh, rf⟩ := er
          have ec : cls = .ref (He.ga X.K c) := ec
          have rf : RpFs X.K ca' H' fs fs' := rf
          exact h1 cls d σ ca1 H' (x1.trans xx) rr ⟨by rw [hK]; exact ec, dd, fs', ed, eh, by rw [hK]; exact RpFs.noH _ _ hh rf⟩
        · rw [if_neg hh] at h1
          exact h1.elim
      | bad => rw [ef] at h1; exact h1
    · rw [if_neg hw] at h1
      exact h1.elim
  · rw [if_neg hl] at h1
    exact h1.elim
end
end DL
namespace DL
open PySem PySem.Spec PyProof.Rows L2
section
variable {D : DC} {ca : CA} {σ : L2.St} {H : Hp} {ms : MS}
/-- a new cell -/
theorem Rel.newcellE {as : List Addr} {c : Cell} (r : Rel D ca σ H ms) (st : D.st = true) (hnd : as.Nodup) (hca : ∀ b ∈ as, b ∉ ca.flatten) (h0 : ∀ b ∈ as, D.H0 b = none) (hc : CellAt D.K (ca ++ [as]) H c as) (ho : ∀ (i : Nat) (p : Addr), Sl.isOwn ms.env[i]? = true → σ[i]? = some (some (V.ref p)) → p ∉ as) :
    Rel D (ca ++ [as]) σ H { ms with cells := ms.cells ++ [c] } := by
  have hl := r.len
  rw [if_pos st] at hl
  have xt : Ext ca H (ca ++ [as]) H := ⟨.refl _, List.prefix_append _ _⟩
  have up : ∀ {d : Cell} {bs : List Addr}, CellAt D.K ca H d bs → CellAt D.K (ca ++ [as]) H d bs := fun {d bs} h => by
    cases d with
    | draw cs ls a rm => exact h
    | inst cn fs =>
      obtain ⟨x, dx, fs', e, a1, a2, a3⟩ := h
      exact ⟨x, dx, fs', e, a1, a2, RpFs.mono xt _ _ a3⟩
    | lst xs =>
      obtain ⟨x, vs, e, a1, a2⟩ := h
      exact ⟨x, vs, e, a1, RpAll.mono xt _ _ a2⟩
    | dct xs =>
      obtain ⟨x, vs, e, a1, a2⟩ := h
      exact ⟨x, vs, e, a1, RpKv.mono xt _ _ a2⟩
    | exc cn fs =>
      obtain ⟨x, dx, fs', e, a1, a2, a3⟩ := h
      exact ⟨x, dx, fs', e, a1, a2, RpFs.mono xt _ _ a3⟩
  obtain ⟨t, et⟩ := r.pre
  refine ⟨?_, fun k d bs e1 e2 => ?_, ?_, r.pre.trans (List.prefix_append _ _), r.fr, fun b hb => ?_, r.slen, fun i y e => ?_, r.sep, r.c0, fun i p e e2 hm => ?_, r.tb, r.fb⟩
  · rw [if_pos st]
    show (ms.cells ++ [c]).length = (ca ++ [as]).length
    rw [List.length_append, List.length_append, hl]
    rfl
  · have e1 : (ms.cells ++ [c])[k]? = some d := e1
    by_cases hk : k < ms.cells.length
    · rw [List.getElem?_append_left hk] at e1
      rw [List.getElem?_append_left (by rw [← hl]; exact hk)] at e2
      exact up (r.cells k d bs e1 e2)
    · have hk2 : k = ms.cells.length := by
        have : k < (ms.cells ++ [c]).length := by
          rcases Nat.lt_or_ge k (ms.cells ++ [c]).length with h | h
          · exact h
          · rw [List.getElem?_eq_none h] at e1; cases e1
        simp at this
        omega
      subst hk2
      rw [List.getElem?_append_right (Nat.le_refl _), Nat.sub_self] at e1
      rw [hl, List.getElem?_append_right (Nat.le_refl _), Nat.sub_self] at e2
      cases e1
      cases e2
      exact hc
  · rw [List.flatten_append, List.flatten_cons, List.flatten_nil, List.append_nil, List.nodup_append]
    exact ⟨r.nd, hnd, fun b hb b' hb' z => hca b' hb' (z ▸ hb)⟩
  · have hle : D.ca0.length ≤ ca.length := by rw [← et]; simp
    rw [List.drop_append_of_le_length hle, List.flatten_append] at hb
    rcases List.mem_append.mp hb with h | h
    · exact r.new b h
    · exact h0 b (by simpa using h)
  · obtain ⟨v, e1, q⟩ := r.slots i y e
    refine ⟨v, e1, ?_⟩
    cases y with
    | fz w => exact Rp.mono xt _ _ q
    | pin w => exact q
    | ow xs =>
      obtain ⟨p, rfl, h0, vs, a, b⟩ := q
      exact ⟨p, rfl, h0, vs, a, RpAll.mono xt _ _ b⟩
    | od xs =>
      obtain ⟨p, rfl, h0, vs, a, b⟩ := q
      exact ⟨p, rfl, h0, vs, a, RpKv.mono xt _ _ b⟩
    | on xs =>
      obtain ⟨p, rfl, h0, s1, s2, vs, a, nn, b⟩ := q
      exact ⟨p, rfl, h0, s1, s2, vs, a, nn, RpN.mono xt _ _ b⟩
  · rw [List.flatten_append, List.flatten_cons, List.flatten_nil, List.append_nil] at hm
    rcases List.mem_append.mp hm with h | h
    · exact r.oca i p e e2 h
    · exact ho i p e e2 h
end
end DL
namespace DL
open PySem PySem.Spec PyProof.Rows L2
end DL
namespace DL
open PySem PySem.Spec PyProof.Rows L2
end DL
namespace DL
open PySem PySem.Spec PyProof.Rows L2
end DL
namespace DL
open PySem PySem.Spec PyProof.Rows L2
open He (ba eqO eqO_ok)
abbrev eBody2 (fld arg fld2 arg2 txt : Str) (kk : Nat) (p0 p1 p2 p3 p4 p5 q0 q1 q2 q3 q4 q5 q6 q7 : Pos) : List Stmt :=
  [.Expr (.Call (.Attribute (.Call (.Name "super" p0) [] [] p1) "__init__" p2) [.Constant (.str txt) kk p3] [] p4) p5, .Assign [.Attribute (.Name "self" q0) fld q1] (.Name arg q2) q3, .Assign [.Attribute (.Name "self" q4) fld2 q5] (.Name arg2 q6) q7]
def spE2 (C : Addr) (fld fld2 : Str) : Sp := fun vs H Q _ => ∃ a v u, vs = [.ref a, v, u] ∧ H a = some (exo a C none) ∧ ∀ dx, H dx = none → dx ≠ a → Q .non (upd (upd (upd H dx (exd dx [(fld, v)])) a (exo a C (some dx))) dx (exd dx [(fld2, u), (fld, v)]))
structure ExcF2 (P : Program) (w : World) (K : PySem.W.Frag) (mg : Str → Option Value) (base : Heap) (x fld fld2 : Str) : Prop where
  oex : OexC K (He.ga K x)
  mgx : mg x = some (.ref (He.ga K x))
  init : ∃ fI fd ps, PySem.W.findIn K (.ref (He.ga K x)) "__init__" = some (some (.ref fI)) ∧ PySem.W.typeIn K (.ref fI) = some (.type "function") ∧ FnOk P w K mg base (L2.CX P w) 1 fI fd ps (spE2 (He.ga K x) fld fld2) ∧ Binds K fd ps []
section
variable {P : Program} {w : World} {K : PySem.W.Frag} {mg : Str → Option Value} {base : Heap} {CX : CXT} {k : Nat} {f C c cc : Addr} {name qual fld arg fld2 arg2 txt : Str} {params : Arguments} {scope : Scope} {dV kV doc pm ct oc : Value} {an od : Option Addr} {osl : Array (Option Value)}
  {kk : Nat} {p0 p1 p2 p3 p4 p5 q0 q1 q2 q3 q4 q5 q6 q7 : Pos}
theorem fn_einit2 (T : ExcI P K C f c cc fld) (hown2 : PySem.W.findIn K (.ref C) fld2 = some none) (lk : K.lookup f = some ⟨oc, od, .func (PySem.W.fnX name qual params (eBody2 fld arg fld2 arg2 txt kk p0 p1 p2 p3 p4 p5 q0 q1 q2 q3 q4 q5 q6 q7) scope [("__class__", cc)] dV kV doc pm an (.ref c) ct), osl⟩) (hcd : PySem.W.codeIn K (.ref c) qual = true)
    (S : NdefX.NScope ["self", arg, arg2, "__class__"] ["self", arg, arg2] ["__class__"] scope) (hks : scope.names.lookup ("super" : Str) = some NameKind.globalImplicit) {ar : Arg} (har : (params.posonlyargs ++ params.args).head? = some ar) (hs0 : ar.arg = "self") (hsup : mg "super" = none) (hd1 : (("self" : Str) == ("__debug__" : Str)) = false := by decide) (hd2 : (arg == ("__debug__" : Str)) = false := by decide) (hd3 : (arg == ("__classdict__" : Str)) = false := by decide) (hd4 : (arg2 == ("__debug__" : Str)) = false := by decide) (hd5 : (arg2 == ("__classdict__" : Str)) = false := by decide) {pl : Addr → Sem Bool}
    (he : ∀ L : Addr, eval (.Call (.Attribute (.Call (.Name "super" p0) [] [] p1) "__init__" p2) [.Constant (.str txt) kk p3] [] p4) (PySem.W.envX qual scope L f (.ref c) [("__class__", cc)]) = (do
      let ov ← attributeBase (.Call (.Name "super" p0) [] [] p1) "__init__" (PySem.W.envX qual scope L f (.ref c) [("__class__", cc)]) (eval (.Call (.Name "super" p0) [] [] p1) (PySem.W.envX qual scope L f (.ref c) [("__class__", cc)]))
      standAt p2.atName
      let (g, first) ← holding [ov] (getMethod ov "__init__" (pl L))
      callWith p4 g first (backTo p4 (starEach [.Constant (.str txt) kk p3] (PySem.W.envX qual scope L f (.ref c) [("__class__", cc)]))) [])) :
    FnOk P w K mg base CX 1 f (PySem.W.fnX name qual params (eBody2 fld arg fld2 arg2 txt kk p0 p1 p2 p3 p4 p5 q0 q1 q2 q3 q4 q5 q6 q7) scope [("__class__", cc)] dV kV doc pm an (.ref c) ct) ["self", arg, arg2] (spE2 C fld fld2) := by
  refine ⟨fun vs H Q E ⟨a, v, u, e, _⟩ => by rw [e]; rfl, fun A outer s H args us vs Q E hr e0 hb r hsp => ?_⟩
  obtain ⟨a, v, u, rfl, ea, hq⟩ := hsp
  have KB := e0.mod.kin
  have KX : K.In s.heap := KB.keeps fun b o e => (e0.bs b o e).1
  have lim : s.heap.NoLimit := e0.mod.nolimit.keeps fun b o e => (e0.bs b o e).1
  obtain ⟨cl, cld, csl, lkk⟩ := T.cell
  have CA : NdefX.CellsAt [("__class__", cc)] ["__class__"] [none] s.heap H := by
    refine ⟨rfl, fun y c0 hy => ?_, fun x y c0 hx hy => ?_, fun i y hi => ?_⟩
    · have hc : c0 = cc := by
        simp only [List.lookup] at hy
        split at hy
        · exact (Option.some.inj hy).symm
        · cases hy
      subst hc
      exact ⟨(e0.bs _ _ (KB _ _ lkk)).2, _, _, KX _ _ lkk, rfl⟩
    · simp only [List.lookup] at hx hy
      split at hx
      · rename_i h1
        split at hy
        · rename_i h2
          rw [beq_iff_eq] at h1 h2
          rw [h1, h2]
        · cases hy
      · cases hx
    · cases i with
      | zero =>
        cases hi
        exact ⟨cc, by simp [List.lookup], fun v hv => by cases hv⟩
      | succ i => cases hi
  let F : NdefX.NF := ⟨name, qual, params, eBody2 fld arg fld2 arg2 txt kk p0 p1 p2 p3 p4 p5 q0 q1 q2 q3 q4 q5 q6 q7, scope, [("__class__", cc)], c⟩
  refine PySem.ks_codeAny_call_defAt (binds := (["self", arg, arg2] : List Str).zip us) hr.depth (KX _ _ lk) rfl lim (PySem.W.codeRec_of KX hcd) rfl hb S.nocell (fun ⟨n, z⟩ hy => S.par n (List.of_mem_zip hy).1) (fun h₁ hns kp => ?_) S.co S.gen S.kind
  have hl : ([V.ref a, v, u] : List V).length = (["self", arg, arg2] : List Str).length := rfl
  have I : Inv (NdefX.ncx CX P w K mg base ["self", arg, arg2, "__class__"] F f A outer s H E) [] (NdefX.startF ["self", arg, arg2, "__class__"] [.ref a, v, u] [none]) H { s with heap := h₁, toks := s.toks + ((["self", arg, arg2] : List Str).zip us).length } := NdefX.inv_startN S hr.hd e0 hl r CA hns kp
  refine PySem.ks_wpAt_execs_cons (super_stmt (X := NdefX.ncx CX P w K mg base ["self", arg, arg2, "__class__"] F f A outer s H E) T I ea lk rfl har hs0 rfl rfl hks (S.frk _ (by simp)) (by simp [NdefX.ncx, List.lookup, F]) (S.par _ (by simp)) rfl rfl hsup (by unfold interactive; simp [NdefX.ncx, F, S.kind]) (he s.heap.objs.size) fun s2 I2 => ?_)
  refine wpAt_of_wpAny ?_
  have hps : PSs (NdefX.ncx CX P w K mg base ["self", arg, arg2, "__class__"] F f A outer s H E) [.Assign [.Attribute (.Name "self" q0) fld q1] (.Name arg q2) q3, .Assign [.Attribute (.Name "self" q4) fld2 q5] (.Name arg2 q6) q7] _ := pss_cons (ps_ost (pe_var (i := 0) rfl (.inl (S.par _ (by simp))) hd1 (by decide)) (pe_var (i := 1) rfl (.inl (S.par _ (by simp))) hd2 hd3)) (pss_one (ps_ost (pe_var (i := 0) rfl (.inl (S.par _ (by simp))) hd1 (by decide)) (pe_var (i := 2) rfl (.inl (S.par _ (by simp))) hd4 hd5)))
  refine wpAny_mono (hps.run [] s2 (NdefX.startF ["self", arg, arg2, "__class__"] [.ref a, v, u] [none]) H { nx := fun _ H' => Q .non H', rt := Q } I2 ?_) (fun fl s' hs => ?_) fun e s' hs => hs
  · exact ⟨v, rfl, .ref a, rfl, a, C, rfl, T.oex, T.own, .inl ⟨ea, fun dx n ne => ⟨u, rfl, .ref a, rfl, a, C, rfl, T.oex, hown2, .inr ⟨dx, [(fld, v)], upd_same, by rw [upd_ne ne, upd_same], by show 1 ≤ 900; decide, hq dx n ne⟩⟩⟩⟩
  · cases fl with
    | next =>
      obtain ⟨σ', H', J, q⟩ := hs
      exact ⟨.non, H', J.os, J.bare, J.base, J.hok, rfl, q⟩
    | ret u =>
      obtain ⟨v', σ', H', J, rv, q⟩ := hs
      exact ⟨v', H', J.os, J.bare, J.base, J.hok, rv, q⟩
    | brk =>
      obtain ⟨_, _, _, q⟩ := hs
      exact False.elim q
    | cont =>
      obtain ⟨_, _, _, q⟩ := hs
      exact False.elim q
end
section
variable {P : Program} {w : World} {K : PySem.W.Frag} {mg : Str → Option Value} {base : Heap} {d : ExD} {arg fld2 arg2 txt : Str} {kk : Nat} {p0 p1 p2 p3 p4 p5 q0 q1 q2 q3 q4 q5 q6 q7 : Pos}
theorem excF2_of (hv : exW K d = d.val) (h : d.ok P K = true) (hown2 : PySem.W.findIn K (.ref (He.ga K d.name)) fld2 = some none) (hmx : mg d.name = some (.ref (He.ga K d.name))) (hbd : d.body = eBody2 d.fld arg fld2 arg2 txt kk p0 p1 p2 p3 p4 p5 q0 q1 q2 q3 q4 q5 q6 q7)
    (S : NdefX.NScope ["self", arg, arg2, "__class__"] ["self", arg, arg2] ["__class__"] d.scope) (hks : d.scope.names.lookup ("super" : Str) = some NameKind.globalImplicit) {ar : Arg} (har : (d.params.posonlyargs ++ d.params.args).head? = some ar) (hs0 : ar.arg = "self") (hsup : mg "super" = none)
    (hbi : ∀ (cl : List (Str × Addr)) (kV doc pm : Value) (an : Option Addr) (cdv ct u v z : Value), bindArgs (PySem.W.fnX "__init__" d.qual d.params d.body d.scope cl .none kV doc pm an cdv ct) ⟨[u, v, z], []⟩ = pure ((["self", arg, arg2] : List Str).zip [u, v, z]))
    (hd1 : (("self" : Str) == ("__debug__" : Str)) = false) (hd2 : (arg == ("__debug__" : Str)) = false) (hd3 : (arg == ("__classdict__" : Str)) = false) (hd4 : (arg2 == ("__debug__" : Str)) = false) (hd5 : (arg2 == ("__classdict__" : Str)) = false) {pl : Addr → Addr → Addr → Addr → Sem Bool}
    (he : ∀ f c cc L : Addr, eval (.Call (.Attribute (.Call (.Name "super" p0) [] [] p1) "__init__" p2) [.Constant (.str txt) kk p3] [] p4) (PySem.W.envX d.qual d.scope L f (.ref c) [("__class__", cc)]) = (do
      let ov ← attributeBase (.Call (.Name "super" p0) [] [] p1) "__init__" (PySem.W.envX d.qual d.scope L f (.ref c) [("__class__", cc)]) (eval (.Call (.Name "super" p0) [] [] p1) (PySem.W.envX d.qual d.scope L f (.ref c) [("__class__", cc)]))
      standAt p2.atName
      let (g, first) ← holding [ov] (getMethod ov "__init__" (pl f c cc L))
      callWith p4 g first (backTo p4 (starEach [.Constant (.str txt) kk p3] (PySem.W.envX d.qual d.scope L f (.ref c) [("__class__", cc)]))) [])) (hr0 : d.root = 0 := by rfl) :
    ExcF2 P w K mg base d.name d.fld fld2 := by
  have h : d.ok0 P K = true := by
    unfold ExD.ok at h
    rw [if_pos hr0] at h
    exact h
  obtain ⟨h1, h⟩ := ba h
  obtain ⟨h2, h⟩ := ba h
  obtain ⟨h3, h⟩ := ba h
  obtain ⟨h4, h⟩ := ba h
  obtain ⟨h5, h⟩ := ba h
  obtain ⟨h6, h⟩ := ba h
  obtain ⟨h7, h⟩ := ba h
  obtain ⟨h8, h⟩ := ba h
  obtain ⟨h9, h⟩ := ba h
  have T1 := oexB_ok h1
  unfold exW at hv
  cases q : K.lookup (d.f K) with
  | none => rw [q] at h; cases h
  | some o =>
    rw [q] at h hv
    obtain ⟨oc, od, dt, osl⟩ := o
    cases dt with
    | func fd =>
      obtain ⟨n1, n2, n3, n4, n5, n6, n7, n8, n9, n10, n11, n12, n13, n14, n15⟩ := fd
      have e2 : (some (n1, n2, n3, n4, n5, n6, n7.map (·.1), n15) : ExW) = some (("__init__" : Str), d.qual, d.params, FuncBody.stmts d.body, d.scope, mainGlobals, (["__class__"] : List Str), builtinsNs) := hv
      simp only [Option.some.injEq, Prod.mk.injEq] at e2
      obtain ⟨k1, k2, k3, k4, k5, k6, k7, k8⟩ := e2
      subst k1 k2 k3 k4 k5 k6 k8
      obtain ⟨c, nm, cc, rfl, rfl, c3⟩ := two_of (n13 := n13) (n7 := n7) (f := fun c cc => PySem.W.codeIn K (.ref c) d.qual && (codeB P K c && cellB K cc (d.C K))) (ba h).2
      · have hdn : n8 = .none := of_decide_eq_true (ba h).1
        subst hdn
        obtain ⟨z1, z2⟩ := ba c3
        obtain ⟨z2, z3⟩ := ba z2
        have hnm : nm = ("__class__" : Str) := by simpa using k7
        subst hnm
        have T : ExcI P K (d.C K) (d.f K) c cc d.fld := by
          refine ⟨T1, eqO_ok h2, ?_, ?_, ?_, of_decide_eq_true h4, of_decide_eq_true h5, eqO_ok h6, by simpa using h7⟩
          · unfold codeB at z2
            split at z2
            · rename_i a1 a2 vs a3 e1
              split at z2
              · rename_i file tf e3
                exact ⟨_, _, vs, _, file, tf, e1, e3, of_decide_eq_true z2⟩
              · cases z2
            · cases z2
          · unfold cellB at z3
            split at z3
            · rename_i a1 a2 C' a3 e1
              have e : C' = d.C K := beq_iff_eq.mp z3
              subst e
              exact ⟨_, _, _, e1⟩
            · cases z3
          · unfold clsB at h3
            split at h3
            · rename_i cd e1
              exact ⟨cd, e1, eqO_ok h3⟩
            · cases h3
        have F := fn_einit2 (P := P) (w := w) (K := K) (mg := mg) (base := base) (CX := L2.CX P w) (f := d.f K) (C := d.C K) (c := c) (cc := cc) (name := "__init__") (qual := d.qual) (fld := d.fld) (arg := arg) (fld2 := fld2) (arg2 := arg2) (txt := txt) (params := d.params) (scope := d.scope)
          (dV := .none) (kV := n9) (doc := n10) (pm := n11) (ct := n14) (oc := oc) (an := n12) (od := od) (osl := osl) (kk := kk) (p0 := p0) (p1 := p1) (p2 := p2) (p3 := p3) (p4 := p4) (p5 := p5) (q0 := q0) (q1 := q1) (q2 := q2) (q3 := q3) (q4 := q4) (q5 := q5) (q6 := q6) (q7 := q7)
          T hown2 (by rw [q, hbd]) z1 S hks har hs0 hsup hd1 hd2 hd3 hd4 hd5 (pl := fun L => pl (d.f K) c cc L) (fun L => he (d.f K) c cc L)
        refine ⟨T1, hmx, d.f K, _, _, eqO_ok h8, of_decide_eq_true h9, F, .all fun us hl => ?_⟩
        match us, hl with
        | [u, v, y], _ =>
          have z := hbi [("__class__", cc)] n9 n10 n11 n12 (.ref c) n14 u v y
          rw [hbd] at z
          exact z
    | _ => cases h
end
end DL
namespace DL
open PySem PySem.Spec PyProof.Rows L2
open He (ba eqO eqO_ok cT codeOf Defn)
end DL
namespace DL
open PySem PySem.Spec PyProof.Rows L2
open He (ba eqO eqO_ok cT codeOf Defn)
end DL
namespace DL
open PySem PySem.Spec PyProof.Rows L2
open He (ba eqO eqO_ok cT codeOf Defn)
def hookC (P : Program) (n : AS) (fa : List He.Fa) (fn : List He.DefD) (ts : List Tb) (tf : List Str) (xs : List ExD) (chk : PySem.W.Frag → Bool) : PySem.W.Hook where
  α := AlH × Bool
  obs := fun s => (obsH P n fa fn ts tf xs s.heap.get?, chk (He.frT s.heap.get? (n s.heap.get?)))
  val := fun w => (valH fn ts xs w, true)
  says := fun w h => ∃ K : PySem.W.Frag, K.In h ∧ SaysH P fa fn ts tf xs w h K ∧ chk K = true
  of := fun _ _ e => ⟨_, He.frT_in, saysH_of (congrArg (fun z : AlH × Bool => z.1) e), congrArg (fun z : AlH × Bool => z.2) e⟩
  keeps := fun _ _ _ ⟨K, hK, c, cc⟩ k => ⟨K, PySem.W.Frag.In.keeps hK k, ⟨⟨c.x.t, c.x.more, c.x.hd, c.x.out, fun p hp => k _ _ (c.x.empty p hp)⟩, c.e⟩, cc⟩
def obsC (P : Program) (n : AS) (fa : List He.Fa) (fn : List He.DefD) (ts : List Tb) (tf : List Str) (xs : List ExD) (chk : PySem.W.Frag → Bool) (g : Addr → Option Obj) : AlH × Bool := (obsH P n fa fn ts tf xs g, chk (He.frT g (n g)))
theorem obsC_eq {P : Program} {n : AS} {fa : List He.Fa} {fn : List He.DefD} {ts : List Tb} {tf : List Str} {xs : List ExD} {chk : PySem.W.Frag → Bool} {g : Addr → Option Obj} {s : Shared} (h : ∀ a, g a = s.heap.get? a) : obsC P n fa fn ts tf xs chk g = (hookC P n fa fn ts tf xs chk).obs s := by
  have e : g = s.heap.get? := funext h
  subst e
  rfl
end DL
namespace DL
open PySem PySem.Spec PyProof.Rows L2
end DL
namespace DL
open PySem PySem.Spec PyProof.Rows L2
end DL
namespace DL
open PySem PySem.Spec PyProof.Rows L2 LamX
open He (ba eqO eqO_ok cT codeOf Defn)
end DL
namespace DL
open PySem PySem.Spec PyProof.Rows L2
open He (ba eqO eqO_ok cT codeOf Defn)
end DL
namespace DL
open PySem PySem.Spec PyProof.Rows L2
open Sem (wp)
end DL
namespace DL
open PySem PySem.Spec PyProof.Rows L2
end DL
namespace DL
open PySem PySem.Spec PyProof.Rows L2
end DL
namespace DL
open PySem PySem.Spec PyProof.Rows L2
end DL
namespace DL
open PySem PySem.Spec PyProof.Rows L2
end DL
namespace DL
open PySem PySem.Spec PyProof.Rows L2
end DL
namespace DL
open PySem PySem.Spec PyProof.Rows L2
end DL
namespace DL
open PySem PySem.Spec PyProof.Rows L2
end DL
namespace DL
open PySem PySem.Spec PyProof.Rows L2
/-- the exception that a handle tells -/
def excAt (w : W) (m : MS) : Option (Nat × Str × List (Str × W)) := match hndOf w with
  | some k => match m.cells[k]? with
    | some (.exc c fs) => some (k, c, fs)
    | _ => none
  | none => none
theorem excAt_inv {w : W} {m : MS} {k : Nat} {c : Str} {fs : List (Str × W)} (h : excAt w m = some (k, c, fs)) : w = hnd k ∧ m.cells[k]? = some (.exc c fs) := by
  unfold excAt at h
  split at h
  · rename_i j e1
    split at h
    · rename_i c' fs' e2
      cases h
      exact ⟨hndOf_eq e1, e2⟩
    · cases h
  · cases h
theorem Rel.exc_at {D : DC} {ca : CA} {σ : L2.St} {H : Hp} {ms : MS} (r : Rel D ca σ H ms) {w : W} {v : V} {k : Nat} {c : Str} {fs : List (Str × W)} (h : excAt w ms = some (k, c, fs)) (p : Rp D.K ca H w v) :
    ∃ x dx fs', v = .ref x ∧ ca[k]? = some [x, dx] ∧ H x = some (exw x (He.ga D.K c) (some dx)) ∧ H dx = some (.xd fs') ∧ RpFs D.K ca H fs fs' := by
  obtain ⟨rfl, h2⟩ := excAt_inv h
  obtain ⟨a, as, ec, rfl⟩ := rp_hnd p
  obtain ⟨x, dx, fs', e, a1, a2, a3⟩ := r.cells k _ _ h2 ec
  cases e
  exact ⟨a, dx, fs', rfl, ec, a1, a2, a3⟩
/-- the reading of a field -/
def tXh (K : PySem.W.Frag) (n : Str) (te : TE) : TE := fun σ H Q => te σ H fun x H1 => ∃ (a C dd : Addr) (fs : List (Str × V)) (v : V), x = .ref a ∧ XfC K C ∧ PySem.W.findIn K (.ref C) n = some none ∧ H1 a = some (exw a C (some dd)) ∧ H1 dd = some (.xd fs) ∧ fs.lookup n = some v ∧ Q v H1
theorem pe_xh {X : Cx} {e : Expr} {te : TE} {pos : Pos} {n : Str} (he : PE X e te) (hb : attributeBase e n X.env (eval e X.env) = eval e X.env) : PE X (.Attribute e n pos) (tXh X.K n te) := by
  refine ⟨fun pins s σ H Q I h => ?_⟩
  refine attr_of hb (thn (he.run pins s σ H _ I h) fun u s1 hh => ?_)
  obtain ⟨x, H1, I1, rx, a, C, dd, fs, v, ex, T, hno, eo, ea, l, q⟩ := hh
  subst ex
  obtain rfl : u = Value.ref a := rx
  obtain ⟨oe, vs, ha, hcl, hdi, hda⟩ := exw_at I1.hok eo
  have hx : ObjOk X.prog X.w H1 s1.heap dd (.xd fs) := I1.hok dd _ ea
  obtain ⟨mA, hns, hr⟩ := hx
  obtain ⟨od, ho, hl⟩ := lookIn_ns hns
  obtain ⟨u, hu, ru⟩ := RelO.some_of (v := v) (o := mA n) (by rw [← l]; exact hr n)
  have J : PySem.W.InstAt s1.heap a oe C (some od) := ⟨ha, hcl, by unfold PySem.W.notCls; rw [hda] <;> rfl, by rw [hdi]; exact ho⟩
  exact HandSPX.exc_get I1.kIn J T.ga T.gg T.exC (PySem.W.findObj_own T.hdC hno rfl (by rw [hl, hu])) (handed_of ru) ⟨v, H1, I1.tok _, ru, q⟩
/-- e.f, e an exception of one of the classes cs -/
def eFldE (cs : List Str) (f : Str) (a : EM) : EM := fun m => (a m).bind fun w m => match excAt w m with
  | some (_, c, fs) => if c ∈ cs then opt (fs.lookup f) m else .bad
  | none => .bad
section
variable {D : DC} {Wx : WX} {X : Cx} {e : Expr} {me : EM} {cs : List Str} {f : Str} {pos p p2 : Pos}
theorem de_fldE (hK : D.K = X.K) (hx : ∀ c ∈ cs, XfC X.K (He.ga X.K c) ∧ PySem.W.findIn X.K (.ref (He.ga X.K c)) f = some none) (he : DE D Wx X e me) (hb : attributeBase e f X.env (eval e X.env) = eval e X.env := by rfl) : DE D Wx X (.Attribute e f pos) (eFldE cs f me) :=
  PE.mono (pe_xh he hb) fun σ H Q ⟨ca, ms, r, h⟩ => RdE.bind r h fun w v ms1 ca1 H1 x1 r1 p1 h1 => by
    cases ei : excAt w ms1 with
    | none => rw [ei] at h1; exact h1.elim
    | some t =>
      obtain ⟨k, c, fs⟩ := t
      rw [ei] at h1
      dsimp only at h1
      by_cases hc : c ∈ cs
      · rw [if_pos hc] at h1
        obtain ⟨x, dx, fs', rfl, ec, a1, a2, a3⟩ := r1.exc_at ei p1
        obtain ⟨y, ey, q⟩ := Po.opt h1
        obtain ⟨u, eu, pu⟩ := a3.look ey
        refine ⟨x, He.ga X.K c, dx, fs', u, rfl, (hx c hc).1, (hx c hc).2, by rw [← hK]; exact a1, a2, eu, ?_⟩
        exact q u ca1 H1 x1 r1 pu
      · rw [if_neg hc] at h1
        exact h1.elim
end
def rIsX (K : PySem.W.Frag) : List V → Hp → VK → Prop := fun xs H Q => ∃ (x c : V) (t cv : Value) (b : Bool), xs = [x, c] ∧ (∀ u, RelV c u → u = cv) ∧
  (TyX K H x t ∨ ∃ a D d fs, x = .ref a ∧ t = .ref D ∧ ExcC K D ∧ H a = some (exw a D (some d)) ∧ H d = some (.xd fs)) ∧ PySem.W.kitOne K t cv = some b ∧ Q (.bl b) H
theorem call_isX {X : Cx} : CallR X (.builtin "isinstance") (rIsX X.K) := by
  intro pins s σ H xs us Q I r h
  obtain ⟨x, c, t, cv, b, rfl, k, ty, e, q⟩ := h
  obtain ⟨u1, u2, rfl, r1, r2⟩ := vals2 r
  have e2 := k _ r2
  subst e2
  rcases ty with ty | ⟨a, D, d, fs, rfl, rfl, C, ea, ed⟩
  · obtain ⟨P, Z, p, hx⟩ := kit_of I r1 ty
    exact PySem.W.kia_one Z I.kIn p e hx fun tk => ⟨.bl b, H, I.tok tk, rfl, q⟩
  · cases (show u1 = Value.ref a from r1)
    obtain ⟨oe, ws, ha, hci, hdi, hda⟩ := exw_at I.hok ea
    have hx : ObjOk X.prog X.w H s.heap d (.xd fs) := I.hok d _ ed
    obtain ⟨mA, hns, _⟩ := hx
    obtain ⟨od, ho, _⟩ := lookIn_ns hns
    have J : PySem.W.InstAt s.heap a oe D (some od) := ⟨ha, hci, by unfold PySem.W.notCls; rw [hda] <;> rfl, by rw [hdi]; exact ho⟩
    have hcl : (PySem.W.clsIn X.K D).isSome = true := by
      obtain ⟨cd, hc, _⟩ := PySem.W.any_some C.hd
      rw [hc]
      rfl
    exact PySem.W.kia_one (PySem.W.kitx_exc hcl C.hg C.hk C.hs C.ha C.hn C.ht C.hm) I.kIn J e (fun z => nomatch z) fun tk => ⟨.bl b, H, I.tok tk, rfl, q⟩
/-- isinstance(e, C): of the classes cs those of bs are under C; data is of none -/
def eIsE (cs bs : List Str) (a : EM) : EM := fun m => (a m).bind fun w m => match excAt w m with
  | some (_, c, _) => if c ∈ cs then .ok (.bool (decide (c ∈ bs))) m else .bad
  | none => if (tyN w).isSome = true then .ok (.bool false) m else .bad
section
variable {D : DC} {Wx : WX} {X : Cx} {a : Expr} {ma : EM} {cs bs : List Str} {xT : Str} {pos p p2 : Pos} {cv : Value} {c : V} {tc : TE}
theorem de_isE (hK : D.K = X.K) (hg : Gl X "isinstance") (hm : X.mg "isinstance" = none) (hT : PE X (.Name xT p2) (tC c)) (hc : ∀ u, RelV c u → u = cv)
    (hx : ∀ d ∈ cs, ExcC X.K (He.ga X.K d) ∧ PySem.W.kitOne X.K (.ref (He.ga X.K d)) cv = some (decide (d ∈ bs))) (hd : ∀ n ∈ isiKinds, PySem.W.kitOne X.K (.type n) cv = some false)
    (ha : DE D Wx X a ma) (hs2 : starEach [a, .Name xT p2] X.env = (false, eval a X.env) :: starEach [.Name xT p2] X.env := by rfl) (hs3 : starEach [.Name xT p2] X.env = (false, eval (.Name xT p2) X.env) :: starEach [] X.env := by rfl) (hpl : (backTo pos (starEach [.Name xT p2] X.env)).any (·.1) = false := by rfl) :
    DE D Wx X (.Call (.Name "isinstance" p) [a, .Name xT p2] [] pos) (eIsE cs bs ma) :=
  PE.mono (pe_callB call_isX hg hm (by decide +kernel) (pa_cons ha (pa_cons hT pa_nil hs3) hs2) (by decide) (by decide) hs2 hpl) fun σ H Q ⟨ca, ms, r, h⟩ => RdE.bind r h fun wx x ms1 ca1 H1 x1 r1 p1 h1 => by
    cases ei : excAt wx ms1 with
    | none =>
      rw [ei] at h1
      dsimp only at h1
      cases en : tyN wx with
      | none => rw [en] at h1; exact False.elim h1
      | some n =>
        rw [en] at h1
        have h1 : EQ D σ ca H Q (.bool false) ms1 := h1
        exact ⟨x, c, .type n, cv, false, rfl, hc, .inl (by rw [← hK]; exact tyN_rp p1 en), hd n (tyN_mem en), h1 _ ca1 H1 x1 r1 rp_bool⟩
    | some t =>
      obtain ⟨k, cn, fs⟩ := t
      rw [ei] at h1
      dsimp only at h1
      by_cases hin : cn ∈ cs
      · rw [if_pos hin] at h1
        obtain ⟨y, dx, fs', rfl, ec, a1, a2, a3⟩ := r1.exc_at ei p1
        obtain ⟨k1, k2⟩ := hx cn hin
        exact ⟨.ref y, c, .ref (He.ga X.K cn), cv, _, rfl, hc, .inr ⟨y, He.ga X.K cn, dx, fs', rfl, rfl, k1, by rw [← hK]; exact a1, a2⟩, k2, h1 _ ca1 H1 x1 r1 rp_bool⟩
      · rw [if_neg hin] at h1
        exact h1.elim
end
end DL
namespace DL
open PySem PySem.Spec PyProof.Rows L2
/-- what its __init__ leaves, with the exception kept -/
def tMkV (C : Addr) (sp : Sp) (dvs : List V) (ta : TA) : TE := fun σ H Q => ta σ H fun vs H1 => vs.length ≤ 1000 ∧ ∀ a, H1 a = none → sp (.ref a :: (vs ++ dvs)) (upd H1 a (exo a C none))
  (fun v H2 => v = .non ∧ ∃ (d : Addr) (fs : List (Str × V)), H2 a = some (exo a C (some d)) ∧ H2 d = some (exd d fs) ∧ H1 d = none ∧ Q (.ref a) (upd (upd H2 d (.xd fs)) a (exw a C (some d)))) (fun _ _ _ => False)
section
variable {X : Cx}
theorem mk_endV {pins : List (Addr × Obj)} {σ : L2.St} {H1 H2 : Hp} {hp hp2 h2 : Heap} {g1 g2 : Array GenState} {d1 d2 : Drawn} {t1 t2 : Nat} {os1 os2 : OsState} {a C d : Addr} {fs : List (Str × V)} (I1 : Inv X pins σ H1 ⟨hp, g1, d1, t1, os1⟩)
    (ha : hp.objs.size ≤ a) (k : ∀ b o, hp.get? b = some o → hp2.get? b = some o) (un : Un (frs X.stack) [] (upd H1 a (exo a C none)) H2 hp2 h2) (hok : HOk X.prog X.w H2 h2) (ho : os2 = os1) (hb : AllBare g2)
    (ea : H2 a = some (exo a C (some d))) (ed : H2 d = some (exd d fs)) (hd1 : H1 d = none) : Inv X pins σ (upd (upd H2 d (.xd fs)) a (exw a C (some d))) ⟨h2, g2, d2, t2, os2⟩ := by
  obtain ⟨t0, hoe⟩ := exo_at hok ea
  obtain ⟨mA, hns, rel⟩ := exd_at hok ed
  have hn : H1 a = none := I1.hok.fresh ha
  have nha : ∀ {b : Addr} {o : Obj}, hp.get? b = some o → b ≠ a := fun {b o} z => Nat.ne_of_lt (Nat.lt_of_lt_of_le (Heap.lt_size z) ha)
  have up : ∀ {b : Addr}, b ≠ a → H1 b = none → upd H1 a (exo a C none) b = none := fun {b} hb n => by rw [upd_ne hb]; exact n
  have nd : ∀ {b : Addr} {o : Obj}, hp.get? b = some o → H1 b = none → b ≠ d := fun {b o} z n e => by
    have y := un.free b o (k b o z) (up (nha z) n) (by simp)
    rw [e, ed] at y
    cases y
  have U : Un (frs X.stack) [] H1 (upd (upd H2 d (.xd fs)) a (exw a C (some d))) hp h2 := {
    keep := fun b o z n hf hx => un.keep b o (k b o z) (up (nha z) n) hf hx
    slot := fun b o z n hf hx => un.slot b o (k b o z) (up (nha z) n) hf hx
    free := fun b o z n hx => by
      rw [upd_ne (nha z), upd_ne (nd z n)]
      exact un.free b o (k b o z) (up (nha z) n) hx
    there := fun b o z hx => un.there b o (k b o z) hx
    tups := fun b xs z => by
      rw [upd_ne (ne_of_none z hn), upd_ne (ne_of_none z hd1)]
      exact un.tups b xs (by rw [upd_ne (ne_of_none z hn)]; exact z)
    frzs := fun b o v z => by
      rw [upd_ne (ne_of_none z hn), upd_ne (ne_of_none z hd1)]
      exact un.frzs b o v (by rw [upd_ne (ne_of_none z hn)]; exact z)
    tbls := fun b ps z => by
      rw [upd_ne (ne_of_none z hn), upd_ne (ne_of_none z hd1)]
      exact un.tbls b ps (by rw [upd_ne (ne_of_none z hn)]; exact z) }
  have hok3 : HOk X.prog X.w (upd (upd H2 d (.xd fs)) a (exw a C (some d))) h2 := fun b o z => by
    by_cases hba : b = a
    · subst hba
      rw [upd_same] at z
      cases z
      exact exw_ok hoe rfl rfl rfl
    · rw [upd_ne hba] at z
      by_cases hbd : b = d
      · subst hbd
        rw [upd_same] at z
        cases z
        exact ⟨mA, hns, rel⟩
      · rw [upd_ne hbd] at z
        exact (hok b o z).stay (fun c v hc y => y) (fun c hc => by rw [upd_ne (at_ne ea hc exo_own), upd_ne (at_ne ed hc exd_own)]; exact hc) (fun c xs hc => by rw [upd_ne (at_ne ea hc exo_tup), upd_ne (at_ne ed hc exd_tup)]; exact hc)
  exact I1.call' (ch := []) ho U hok3 hb (fun b z => absurd z (by simp))
theorem pe_oex {CX : CXT} {x : Str} {C fI : Addr} {k : Nat} {fd : FuncData} {ps : List Str} {sp : Sp} {ds : List Value} {dvs : List V} {e : Expr} {es : List Expr} {ta : TA} {p pos : Pos} (T : OexC X.K C) (iC : PySem.W.findIn X.K (.ref C) "__init__" = some (some (.ref fI))) (tI : PySem.W.typeIn X.K (.ref fI) = some (.type "function"))
    (F1 : FnOk X.prog X.w X.K X.mg X.base CX k fI fd ps sp) (hr : Room (k + 1) X.A) (hb : Binds X.K fd ps ds) (hd : Vals dvs ds) (hx : Passes CX X (fun _ _ _ => False)) (hg : Gl X x) (hm : X.mg x = some (.ref C)) (ha : PA X (e :: es) ta)
    (hdb : (x == ("__debug__" : Str)) = false := by decide) (he : starEach (e :: es) X.env = (false, eval e X.env) :: starEach es X.env := by rfl) (hpl : (backTo pos (starEach es X.env)).any (·.1) = false := by rfl) :
    PE X (.Call (.Name x p) (e :: es) [] pos) (tMkV C sp dvs ta) := by
  refine ⟨fun pins s σ H Q I h => ?_⟩
  obtain ⟨nm, q, N, bs, bm, sn, sub, ab, col, dd, k0, k1, k2, k3, k5, hC, hbm⟩ := T.cls
  refine wpAny_Call_Name_kw (ld_glob I hg hm ?_ hdb)
  refine PySem.W.callWith_K (h₀ := X.base) I.ok.mod.kin T.kC (thn (ha.run pos pins s σ H _ I h) fun us s1 ⟨vs, H1, I1, r1, hz, q1⟩ => ⟨I1.kIn, ?_⟩) he hpl
  show wpAny _ _ (call (.ref C) us) _ _ _
  obtain ⟨hp, g, dr, tk, os⟩ := s1
  have hsz : hp.objs.size ≤ hp.objs.size + 1 := Nat.le_succ _
  have hn : H1 (hp.objs.size + 1) = none := I1.hok.fresh hsz
  have hq := q1 (hp.objs.size + 1) hn
  have kk : ∀ b o, hp.get? b = some o → ((hp.push (PySem.W.kdv_tup us)).push (PySem.HandSPX.excO C hp.objs.size)).get? b = some o := fun b o e => Heap.get?_push_of_some _ (Heap.get?_push_of_some _ e)
  have hget : ((hp.push (PySem.W.kdv_tup us)).push (PySem.HandSPX.excO C hp.objs.size)).get? (hp.objs.size + 1) = some (PySem.HandSPX.excO C hp.objs.size) := by heap_get
  have I2 : Inv X pins σ (upd H1 (hp.objs.size + 1) (exo (hp.objs.size + 1) C none)) ⟨(hp.push (PySem.W.kdv_tup us)).push (PySem.HandSPX.excO C hp.objs.size), g, dr, tk, os⟩ :=
    I1.laid (t' := tk) (a := hp.objs.size + 1) (o := exo (hp.objs.size + 1) C none) (h' := (hp.push (PySem.W.kdv_tup us)).push (PySem.HandSPX.excO C hp.objs.size)) kk hsz (exo_ok hget)
  have r2 : Vals (V.ref (hp.objs.size + 1) :: (vs ++ dvs)) (Value.ref (hp.objs.size + 1) :: (us ++ ds)) := .cons rfl (r1.append hd)
  have hl : (Value.ref (hp.objs.size + 1) :: us ++ ds).length = ps.length := by
    have e := r2.length
    rw [F1.len _ _ _ _ hq] at e
    exact e.symm
  have hus : us.length ≤ sizeLine := by
    rw [← Paired.length r1, sizeLine_eq]
    omega
  refine wpAny_call (PySem.HandSPX.call_own F.excBase_ValueError (fun Y => PySem.HandSPX.refsVE_contains Y bm hbm) (I1.kIn _ _ hC) (PySem.W.looks_findIn I1.kIn iC) (fun self => PySem.W.bind_fn I1.kIn self tI) hus
    (codeAny_mono (F1.run _ X.stack _ _ ⟨Value.ref (hp.objs.size + 1) :: us, []⟩ (Value.ref (hp.objs.size + 1) :: (us ++ ds)) _ _ (fun _ _ _ => False) (hr.make C us []) (I2.env0.make C us []) (hb _ (Value.ref (hp.objs.size + 1) :: us) I2.kIn hl) r2 hq) fun r s' hq' => ?_))
  cases r with
  | error er => exact hx pins σ _ _ er s' I2 hq'
  | ok fl =>
    cases fl with
    | ret u =>
      obtain ⟨v, H2, os2, bare2, un2, hok2, rv, ev, d, fs, ea, ed, hd1, q2⟩ := hq'
      subst ev
      obtain ⟨h2, g2, d2, t2, os'⟩ := s'
      exact ⟨rv, .ref (hp.objs.size + 1), _, mk_endV I1 hsz kk un2 hok2 os2 bare2 ea ed hd1, rfl, q2⟩
    | next => exact False.elim hq'
    | brk => exact False.elim hq'
    | cont => exact False.elim hq'
end
/-- a new exception's cell -/
theorem Rel.newexc {D : DC} {ca : CA} {σ : L2.St} {H : Hp} {ms : MS} (r : Rel D ca σ H ms) (st : D.st = true) {a dx : Addr} {c : Str} {fs : List (Str × W)} {fs' : List (Str × V)} (ha : H a = none) (hdx : H dx = none) (hne : dx ≠ a) (pf : RpFs D.K ca H fs fs') :
    Ext ca H (ca ++ [[a, dx]]) (upd (upd H a (exw a (He.ga D.K c) (some dx))) dx (.xd fs')) ∧ Rel D (ca ++ [[a, dx]]) σ (upd (upd H a (exw a (He.ga D.K c) (some dx))) dx (.xd fs')) { ms with cells := ms.cells ++ [.exc c fs] } ∧
      Rp D.K (ca ++ [[a, dx]]) (upd (upd H a (exw a (He.ga D.K c) (some dx))) dx (.xd fs')) (hnd ms.cells.length) (.ref a) := by
  have g : Same H (upd (upd H a (exw a (He.ga D.K c) (some dx))) dx (.xd fs')) := fun b u e => by
    rw [upd_ne (fun z => by subst z; rw [hdx] at e; cases e), upd_ne (fun z => by subst z; rw [ha] at e; cases e)]
    exact e
  have hlen := r.len
  rw [if_pos st] at hlen
  have xt : Ext ca H (ca ++ [[a, dx]]) (upd (upd H a (exw a (He.ga D.K c) (some dx))) dx (.xd fs')) := ⟨.of_same g, List.prefix_append _ _⟩
  have r3 := (r.grow g).newcellE (as := [a, dx]) (c := .exc c fs) st (by
      rw [List.nodup_cons]
      refine ⟨fun z => hne ?_, by simp⟩
      have : a = dx := by simpa using z
      exact this.symm) (fun b hb => by
      have : b = a ∨ b = dx := by simpa using hb
      rcases this with rfl | rfl
      · exact r.not_ca ha
      · exact r.not_ca hdx) (fun b hb => by
      have : b = a ∨ b = dx := by simpa using hb
      rcases this with rfl | rfl
      · exact r.h0_none ha
      · exact r.h0_none hdx) ⟨a, dx, fs', rfl, by rw [upd_ne (Ne.symm hne), upd_same], upd_same, RpFs.mono xt _ _ pf⟩ (fun i p e1 e2 hm => by
      obtain ⟨y, hy⟩ := isOwn_some e1
      have hy : ms.env[i]? = some (some y) := hy
      rw [hy] at e1
      obtain ⟨v, e3, q⟩ := r.slots i y hy
      rw [e2] at e3
      cases e3
      obtain ⟨p', ep, _, oa⟩ := q.own e1
      cases ep
      obtain ⟨o, ho, _⟩ := oa.mut
      have : p = a ∨ p = dx := by simpa using hm
      rcases this with rfl | rfl
      · rw [ha] at ho; cases ho
      · rw [hdx] at ho; cases ho)
  have hc : (ca ++ [[a, dx]])[ms.cells.length]? = some [a, dx] := by
    rw [hlen, List.getElem?_append_right (Nat.le_refl _), Nat.sub_self]
    rfl
  exact ⟨xt, r3, hnd_rp hc⟩
/-- C(e) -/
def eMkE (c fld : Str) (a : EM) : EM := fun m => (a m).bind fun w m => .ok (hnd m.cells.length) { m with cells := m.cells ++ [.exc c [(fld, w)]] }
/-- C(e, f) -/
def eMkE2 (c fld fld2 : Str) (a b : EM) : EM := fun m => (a m).bind fun w m => (b m).bind fun x m => .ok (hnd m.cells.length) { m with cells := m.cells ++ [.exc c [(fld2, x), (fld, w)]] }
section
variable {D : DC} {Wx : WX} {X : Cx} {x fld fld2 : Str} {e e2 : Expr} {me me2 : EM} {p pos pos2 : Pos}
theorem de_mkE (F : ExcF X.prog X.w X.K X.mg X.base x fld) (st : D.st = true) (tk : L2.Takes X Wx) (hr : Room 2 X.A) (hg : Gl X x) (hK : D.K = X.K) (he : DE D Wx X e me) (hdb : (x == ("__debug__" : Str)) = false := by decide) (hs : starEach [e] X.env = (false, eval e X.env) :: starEach [] X.env := by rfl) :
    DE D Wx X (.Call (.Name x p) [e] [] pos) (eMkE x fld me) := by
  obtain ⟨fI, fd, ps, iC, tI, F1, hb⟩ := F.init
  have hx : Passes (L2.CX X.prog X.w) X (fun _ _ _ => False) := L2.passes_call tk fun _ _ _ _ z => z.elim
  refine PE.mono (pe_oex F.oex iC tI F1 hr hb .nil hx hg F.mgx (pa_cons he pa_nil hs) hdb hs rfl) fun σ H Q ⟨ca, ms, r, h⟩ => ?_
  refine RdE.bind r h fun w v ms1 ca1 H1 x1 r1 p1 h1 => ?_
  refine ⟨by show 1 ≤ 1000; decide, fun a ha => ⟨a, v, rfl, upd_same, fun dx hdx hne => ?_⟩⟩
  have hdx1 : H1 dx = none := by rw [upd_ne hne] at hdx; exact hdx
  refine ⟨rfl, dx, [(fld, v)], upd_same, ?_, hdx1, ?_⟩
  · rw [upd_ne hne, upd_same]
  · have eh : upd (upd (upd (upd (upd H1 a (exo a (He.ga X.K x) none)) dx (exd dx [(fld, v)])) a (exo a (He.ga X.K x) (some dx))) dx (.xd [(fld, v)])) a (exw a (He.ga X.K x) (some dx)) = upd (upd H1 a (exw a (He.ga D.K x) (some dx))) dx (.xd [(fld, v)]) := by
      rw [hK]
      funext b
      by_cases hb2 : b = a
      · rw [hb2, upd_same, upd_ne (Ne.symm hne), upd_same]
      · rw [upd_ne hb2]
        by_cases hb1 : b = dx
        · rw [hb1, upd_same, upd_same]
        · rw [upd_ne hb1, upd_ne hb1, upd_ne hb2, upd_ne hb1, upd_ne hb2, upd_ne hb2]
    rw [eh]
    obtain ⟨xt, r3, pv⟩ := r1.newexc (c := x) (fs := [(fld, w)]) (fs' := [(fld, v)]) st ha hdx1 hne (by
      simp only [RpFs]
      exact ⟨v, [], rfl, p1, rfl⟩)
    exact h1 (.ref a) _ _ (x1.trans xt) r3 pv
theorem de_mkE2 (F : ExcF2 X.prog X.w X.K X.mg X.base x fld fld2) (st : D.st = true) (tk : L2.Takes X Wx) (hr : Room 2 X.A) (hg : Gl X x) (hK : D.K = X.K) (he : DE D Wx X e me) (he2 : DE D Wx X e2 me2) (hdb : (x == ("__debug__" : Str)) = false := by decide) (hs : starEach [e, e2] X.env = (false, eval e X.env) :: starEach [e2] X.env := by rfl) (hs2 : starEach [e2] X.env = (false, eval e2 X.env) :: starEach [] X.env := by rfl) (hpl : (backTo pos (starEach [e2] X.env)).any (·.1) = false := by rfl) :
    DE D Wx X (.Call (.Name x p) [e, e2] [] pos) (eMkE2 x fld fld2 me me2) := by
  obtain ⟨fI, fd, ps, iC, tI, F1, hb⟩ := F.init
  have hx : Passes (L2.CX X.prog X.w) X (fun _ _ _ => False) := L2.passes_call tk fun _ _ _ _ z => z.elim
  refine PE.mono (pe_oex F.oex iC tI F1 hr hb .nil hx hg F.mgx (pa_cons he (pa_cons he2 pa_nil hs2) hs) hdb hs hpl) fun σ H Q ⟨ca, ms, r, h⟩ => ?_
  refine RdE.bind r h fun w v ms1 ca1 H0 x1 r1 p1 h1 => RdE.bind r1 (h1.ext x1) fun w2 v2 ms2 ca2 H1 x2 r2 p2 h2 => ?_
  refine ⟨by show 2 ≤ 1000; decide, fun a ha => ⟨a, v, v2, rfl, upd_same, fun dx hdx hne => ?_⟩⟩
  have hdx1 : H1 dx = none := by rw [upd_ne hne] at hdx; exact hdx
  refine ⟨rfl, dx, [(fld2, v2), (fld, v)], ?_, upd_same, hdx1, ?_⟩
  · rw [upd_ne (fun z => hne z.symm), upd_same]
  · have eh : upd (upd (upd (upd (upd (upd H1 a (exo a (He.ga X.K x) none)) dx (exd dx [(fld, v)])) a (exo a (He.ga X.K x) (some dx))) dx (exd dx [(fld2, v2), (fld, v)])) dx (.xd [(fld2, v2), (fld, v)])) a (exw a (He.ga X.K x) (some dx)) = upd (upd H1 a (exw a (He.ga D.K x) (some dx))) dx (.xd [(fld2, v2), (fld, v)]) := by
      rw [hK]
      funext b
      by_cases hb2 : b = a
      · rw [hb2, upd_same, upd_ne (Ne.symm hne), upd_same]
      · rw [upd_ne hb2]
        by_cases hb1 : b = dx
        · rw [hb1, upd_same, upd_same]
        · rw [upd_ne hb1, upd_ne hb1, upd_ne hb1, upd_ne hb2, upd_ne hb1, upd_ne hb2, upd_ne hb2]
    rw [eh]
    obtain ⟨xt, r3, pv⟩ := r2.newexc (c := x) (fs := [(fld2, w2), (fld, w)]) (fs' := [(fld2, v2), (fld, v)]) st ha hdx1 hne (by
      simp only [RpFs]
      exact ⟨v2, _, rfl, p2, v, [], rfl, Rp.mono x2 _ _ p1, rfl⟩)
    exact h2 (.ref a) _ _ (x1.trans (x2.trans xt)) r3 pv
end
end DL
namespace DPX
open PySem PySem.Spec PySem.Calls PyProof.Rows PySem.HandSPX Builtin Builtin.ObjectAttr
/-- what the mro behind the class must hold -/
structure BmOk (N : String) (bm : List Value) : Prop where
  n : bm.contains (.type N) = true
  at_ : bm.contains (.type "AttributeError") = false
  nm : bm.contains (.type "NameError") = false
  ob : bm.contains (.type "object") = true
  ps : ∀ self : Value, refuseLoop self "__setattr__" bm = pure ()
section
variable {M : Model} {A : Around} {E : Value → Shared → Prop} {h : Heap} {g : Array GenState} {d : Drawn} {t : Nat} {os : OsState}
variable {nm q : Str} {C N : Addr} {bs bm bmB : List Value} {hdct : Bool} {sn : List Str} {sub : List Value} {ab : Bool} {col : Option Bool} {dd : Option Addr} {k0 k1 k2 k3 k5 : Option Value} {B newId initId : String}
theorem check_new_g (F : ExcBaseFacts B newId initId bmB) (O : BmOk B bm) {rest : List Value} {Q : Unit → Shared → Prop}
    (hC : h.get? C = some (excClassObj nm q C N bs bm hdct sn sub ab col dd k0 k1 k2 k3 k5 newId)) (hq : Q () ⟨h, g, d, t, os⟩) : wpAny M A (checkBuiltinCall newId ⟨.ref C :: rest, []⟩) Q E ⟨h, g, d, t, os⟩ := by
  have hcont : (Value.ref C :: bm).contains (.type B) = true := by rw [List.contains_cons, O.n, Bool.or_true]
  have hstar := F.noStar
  simp only [checkBuiltinCall, F.newKind, F.newSplit, F.newRow]
  repeat (first | refine wpAny_loadPart_at hC ?_ | (refine wpAny_isSubtype_exc hC ?_; rw [hcont]) | refine wpAny_staticBase_exc hC ?_ | refine wpAny_madeBy_exc hC ?_ | simp only [bne_self_eq_false, Bool.false_eq_true, if_false] | wp_step)
  exact hq
end
section
variable {prog : Program} {w : World} {A : Around} {E : Value → Shared → Prop} {R : Result → Shared → Prop} {h : Heap} {g : Array GenState} {d : Drawn} {t : Nat} {os : OsState}
variable {nm q : Str} {C N : Addr} {bs bm bmB : List Value} {hdct : Bool} {sn : List Str} {sub : List Value} {ab : Bool} {col : Option Bool} {dd : Option Addr} {k0 k1 k2 k3 k5 : Option Value} {B newId initId : String}
theorem new_g (F : ExcBaseFacts B newId initId bmB) (O : BmOk B bm) {rest : List Value}
    (hC : h.get? C = some (excClassObj nm q C N bs bm hdct sn sub ab col dd k0 k1 k2 k3 k5 newId))
    (hq : R (.ok (.ret (.ref (h.objs.size + 1)))) ⟨(h.push { cls := .type "tuple", data := .seq rest.toArray }).push
      { cls := .ref C, data := .fields #[.ref h.objs.size, .none, .none, .none, .bool false, .none] }, g, d, t, os⟩) (hrest : rest.length ≤ sizeLine) :
    codeAny (model prog w) A (.builtin newId ⟨.ref C :: rest, []⟩) R ⟨h, g, d, t, os⟩ := by
  have hends := F.ends
  have hcB : (Value.ref C :: bm).contains (.type B) = true := by rw [List.contains_cons, O.n, Bool.or_true]
  have hcA : (Value.ref C :: bm).contains (.type "AttributeError") = false := by rw [List.contains_cons, O.at_]; rfl
  have hcN : (Value.ref C :: bm).contains (.type "NameError") = false := by rw [List.contains_cons, O.nm]; rfl
  refine codeAny_builtinAt F.entry ?_
  unfold Builtin.«BaseException.__new__»
  refine _root_.PySem.wpAt_bind ?_
  show _root_.PySem.wpAt _ _ _ (stack >>= _) _ _ _
  refine _root_.PySem.wpAt_bind (_root_.PySem.wpAt_stack fun p below => _root_.PySem.wpAt_of_wpAny ?_)
  wp_walk
  refine _root_.PySem.wpAt_of_wpAny ?_
  rw [F.owner]
  repeat (first | with_reducible refine wpAny_madeHere_exc F.canon hC ?_ | with_reducible refine wpAny_loadPart_at hC ?_ | (with_reducible refine wpAny_isSubtype_exc hC ?_; first | rw [hcB] | rw [hcA] | rw [hcN]) | wp_step)
  show R _ _
  rw [Heap.size_push]
  exact hq
theorem type_call_g (F : ExcBaseFacts B newId initId bmB) (O : BmOk B bm) {rest : List Value} {fI : Addr} {Q : Fin → Shared → Prop}
    (hC : h.get? C = some (excClassObj nm q C N bs bm hdct sn sub ab col dd k0 k1 k2 k3 k5 newId))
    (hi : PySem.W.Looks (model prog w) h (typeLookup (.ref C) "__init__") (some (.ref fI))) (hb : ∀ self, PySem.W.Looks (model prog w) h (bindSpecial (.ref fI) self) (.ref fI, [self])) (hrest : rest.length ≤ sizeLine)
    (hq : codeAny (model prog w) A (.call (.ref fI) ⟨.ref (h.objs.size + 1) :: rest, []⟩)
      (fun r s' => match r with | .ok (.ret v) => v = .none ∧ Q (.done (.ret (.ref (h.objs.size + 1)))) s' | .ok _ => False | .error e => E e s')
      ⟨(h.push (PySem.W.kdv_tup rest)).push (excO C h.objs.size), g, d, t, os⟩) :
    wpAny (model prog w) A (Builtin.«type.__call__» ⟨.ref C :: rest, []⟩) Q E ⟨h, g, d, t, os⟩ := by
  repeat (first | with_reducible refine wpAny_loadPart_at hC ?_ | with_reducible refine wpAny_madeBy_exc hC ?_ | wp_step)
  refine codeAny_call_builtin_code (Code.quiet_builtin _ F.quiet) (check_new_g F O hC ?_)
  refine new_g F O hC ?_ hrest
  show wpAny _ _ _ _ _ _
  have k : ∀ b o, h.get? b = some o → ((h.push (PySem.W.kdv_tup rest)).push (excO C h.objs.size)).get? b = some o := fun b o e => Heap.get?_push_of_some _ (Heap.get?_push_of_some _ e)
  have hC₁ := k _ _ hC
  have hget : ((h.push (PySem.W.kdv_tup rest)).push (excO C h.objs.size)).get? (h.objs.size + 1) = some (excO C h.objs.size) := by heap_get
  have hcC : (Value.ref C :: bm).contains (.ref C) = true := by simp
  have i1 := hi.keeps k
  have b1 := (hb (.ref (h.objs.size + 1))).keeps k
  unfold isInstance
  repeat (first | with_reducible refine wpAny_loadPart_at hget ?_ | (with_reducible refine wpAny_isSubtype_exc hC₁ ?_; rw [hcC]) | wp_step)
  show wpAny _ _ (typeLookup (.ref C) _) _ _ _
  refine i1.at ?_
  refine wpAny_holding (wpAny_bind (b1.at ?_))
  refine wpAny_bind (wpAny_call (codeAny_mono hq fun r s' z => ?_))
  rcases r with e | (v | _ | _ | _) <;> first | exact z | exact z.elim | skip
  obtain ⟨rfl, z⟩ := z
  first
    | exact wpAny_pure (wpAny_pure z)
    | (wp_walk; exact z)
theorem call_g (F : ExcBaseFacts B newId initId bmB) (O : BmOk B bm) {rest : List Value} {fI : Addr}
    (hC : h.get? C = some (excClassObj nm q C N bs bm hdct sn sub ab col dd k0 k1 k2 k3 k5 newId))
    (hi : PySem.W.Looks (model prog w) h (typeLookup (.ref C) "__init__") (some (.ref fI))) (hb : ∀ self, PySem.W.Looks (model prog w) h (bindSpecial (.ref fI) self) (.ref fI, [self])) (hrest : rest.length ≤ sizeLine)
    (hq : codeAny (model prog w) (A.under (.builtin "type.__call__" ⟨.ref C :: rest, []⟩)) (.call (.ref fI) ⟨.ref (h.objs.size + 1) :: rest, []⟩) (PySem.W.InitBack (h.objs.size + 1) R)
      ⟨(h.push (PySem.W.kdv_tup rest)).push (excO C h.objs.size), g, d, t, os⟩) :
    codeAny (model prog w) A (.call (.ref C) ⟨rest, []⟩) R ⟨h, g, d, t, os⟩ := by
  have f1 := tc_lookup
  have f2 := tc_bind (.ref C)
  have hTy : (⟨h, g, d, t, os⟩ : Shared).TypeIs (.ref C) "type" := ⟨_, hC, rfl⟩
  refine codeAny_of_tree ?_
  show wpAny _ _ (callAny (.ref C) _) _ _ _
  repeat (any_goals (first | assumption | with_reducible refine wpAny_loadPart_at hC ?_ | wp_step))
  refine ⟨rfl, ?_⟩
  refine codeAny_call_builtin_at (Code.quiet_builtin _ (by decide +kernel)) entry_typeCall (wpAny_check_type_call_sub hC (type_call_g F O hC hi hb hrest ?_))
  refine codeAny_mono hq fun r s' z => ?_
  rcases r with e | (v | _ | _ | _) <;> exact z
theorem osa_g {K : PySem.W.Frag} {name : Str} {tk : Tok} {v : Value} {x C : Addr} {fv : Array Value} {cd : ClassData}
    (X : K.In h) (hx : h.get? x = some { cls := .ref C, data := .fields fv }) (hcd : PySem.W.clsIn K C = some cd) (ne : cd.mro.isEmpty = false) (hob : cd.mro.contains (.type "object") = true) (hps : ∀ self : Value, refuseLoop self "__setattr__" cd.mro = pure ()) (hh : cd.hasDict = true) (ha : PySem.W.findIn K (.ref C) name = some none)
    (hq : ∀ h' tk' dx, (∀ b o, b ≠ x → h.get? b = some o → h'.get? b = some o) → h.objs.size ≤ dx → dx ≠ x → h'.get? x = some { cls := .ref C, dict := some dx, data := .fields fv } →
      h'.Ns1 dx (fun y => if y = name then some v else none) → R (.ok (.ret .none)) ⟨h', g, d, tk', os⟩) :
    codeAny (model prog w) A (.call (.builtin "object.__setattr__") ⟨[.ref x, .str name tk, v], []⟩) R ⟨h, g, d, t, os⟩ := by
  have I : PySem.W.InstAt h x { cls := .ref C, data := .fields fv } C none := ⟨hx, rfl, rfl, trivial⟩
  have SF := F.store_object
  have hxs : x ≠ h.objs.size := Nat.ne_of_lt (Heap.lt_size hx)
  have sub : PySem.W.Looks (model prog w) h (isInstance (.ref x) (.type "object")) true := I.type.andThen (PySem.W.looks_mroIn X (by unfold PySem.W.mroIn; rw [hcd, Option.bind_some, if_neg (by rw [ne]; decide), hob]))
  refine codeAny_call_builtin SF.slot.plain SF.entry (@PySem.W.check_slot (model prog w) _ _ ⟨h, g, d, t, os⟩ "object.__setattr__" "object" "__setattr__" (.ref x) [.str name tk, v] [] _ SF.kind SF.split sub (SF.args (.ref x) (.str name tk) v) ?_)
  have hmr : PySem.W.Looks (model prog w) h (mroOf (.ref C)) cd.mro := (PySem.W.looks_clsIn X hcd).andThen .now
  have L3 : PySem.W.Looks (model prog w) h (storeTaker? none) none := .now
  have hcls : PySem.W.Looks (model prog w) h (classData C) cd := PySem.W.looks_clsIn X hcd
  rw [PySem.W.osa_eq, refuse_eq]
  refine wpAny_bind (wpAny_bind (I.type.at (wpAny_bind (hmr.at ?_))))
  rw [hps]
  refine wpAny_pure (wpAny_bind (I.type.at (wpAny_bind ((PySem.W.looks_findIn X ha).at (wpAny_bind (L3.at ?_))))))
  show wpAny _ _ (storeInOwnDict (.ref x) (.ref C) (.str name tk) name v false) _ _ _
  obtain ⟨nm, bs, mro, ns, qn, hd, sn, sb, ab, col, del⟩ := cd
  dsimp only at hh
  subst hh
  unfold storeInOwnDict ownDictForStores
  repeat (first | with_reducible refine store_in_new ?_ ?_ | with_reducible refine wpAny_loadPart_at hx ?_ | with_reducible refine hcls.at ?_ | wp_step)
  · exact ⟨_, #[], _, (Heap.get?_update_ne _ _ _ _ hxs.symm).trans (Heap.get?_push_at rfl rfl), rfl, fun e he => absurd he (by simp), fun _ => rfl⟩
  · intro h' tk' hn' hs
    have hx₁ : (h.push { cls := .type "dict", data := .dict #[] }).get? x = some { cls := .ref C, data := .fields fv } := Heap.get?_push_of_some _ hx
    refine hq h' tk' h.objs.size (fun b o hb ho => ?_) (Nat.le_refl _) hxs.symm ?_ hn'
    · exact (hs.2 b (Nat.ne_of_lt (Heap.lt_size ho))).trans ((Heap.get?_update_ne _ _ _ _ hb).trans (Heap.get?_push_of_some _ ho))
    · exact (hs.2 x hxs).trans (Heap.get?_update_self _ hx₁ rfl)
end
end DPX
namespace DL
open PySem PySem.Spec PyProof.Rows L2
/-- what the root's __init__ is -/
structure InitR (B iN : String) : Prop where
  kx : PySem.W.KxsFacts B iN
  kind : builtinKind iN = some .slot
  row : Manifest.signature? iN = some ⟨.positional, "*", B, .self, [⟨"args", .varPos, false⟩]⟩
  star : (B != "*") = true
  slot : Slot B "__init__" iN
  entry : entryFor table iN = some Builtin.«BaseException.__init__»
theorem initR_of {B nid iN : String} (F : ExcCallFacts B nid iN) (S : PySem.W.KxsFacts B iN) : InitR B iN := ⟨S, F.initKind, F.initRow, F.noStar, F.init, F.initEntry⟩
structure OexG (K : PySem.W.Frag) (C : Addr) : Prop where
  cls : ∃ nm q N bs bm sn sub ab col dd k0 k1 k2 k3 k5 nid R iR bmR, ExcBaseFacts R nid iR bmR ∧ K.lookup C = some (excClassObj nm q C N bs bm true sn sub ab col dd k0 k1 k2 k3 k5 nid) ∧ DPX.BmOk R bm
  sa : PySem.W.findIn K (.ref C) "__setattr__" = some (some (.builtin "object.__setattr__"))
  exC : PySem.W.subIn K (.ref C) (.type "BaseException") = some true
  tyC : PySem.W.typeIn K (.ref C) = some (.type "type")
  kC : PySem.W.keepIn K (.ref C) = true
theorem OexG.of {K : PySem.W.Frag} {C : Addr} (T : OexC K C) : OexG K C := by
  obtain ⟨nm, q, N, bs, bm, sn, sub, ab, col, dd, k0, k1, k2, k3, k5, hC, hbm⟩ := T.cls
  have hc := fun Y => PySem.HandSPX.refsVE_contains Y bm hbm
  exact ⟨⟨nm, q, N, bs, bm, sn, sub, ab, col, dd, k0, k1, k2, k3, k5, _, _, _, _, PySem.F.excBase_ValueError, hC, (hc _).trans (by decide +kernel), (hc _).trans (by decide +kernel), (hc _).trans (by decide +kernel), (hc _).trans (by decide +kernel), fun self => PySem.HandSPX.refsVE_pass self bm hbm⟩, T.sa, T.exC, T.tyC, T.kC⟩
section
variable {X : Cx} {pins : List (Addr × Obj)} {σ : L2.St} {H : Hp} {s : Shared} {a C dx : Addr} {f : Str} {y : V} {u : Value} {Q : Unit → Shared → Prop} {E : Value → Shared → Prop} {A : Around}
theorem mro_ok {bm : List Value} {R : String} (O : DPX.BmOk R bm) (C : Addr) : (Value.ref C :: bm).isEmpty = false ∧ (Value.ref C :: bm).contains (.type "object") = true ∧ ∀ self : Value, refuseLoop self "__setattr__" (Value.ref C :: bm) = pure () :=
  ⟨rfl, by rw [List.contains_cons, O.ob, Bool.or_true], fun self => by rw [refuseLoop_ref]; exact O.ps self⟩
theorem ost_newG (T : OexG X.K C) (I : Inv X pins σ H s) (e : H a = some (exo a C none)) (hno : PySem.W.findIn X.K (.ref C) f = some none) (ry : L2.RelV y u)
    (h : ∀ dx s', H dx = none → dx ≠ a → Inv X pins σ (upd (upd H dx (exd dx [(f, y)])) a (exo a C (some dx))) s' → Q () s') : wpAny (model X.prog X.w) A (setAttr (.ref a) f u) Q E s := by
  obtain ⟨nm, q, N, bs, bm, sn, sub, ab, col, dd, k0, k1, k2, k3, k5, nid, R, iR, bmR, FN, hC, hbm⟩ := T.cls
  obtain ⟨m1, m2, m3⟩ := mro_ok hbm C
  have hcl : PySem.W.clsIn X.K C = some { name := nm, bases := bs, mro := .ref C :: bm, ns := N, qualname := q, hasDict := true, slotNames := sn, subclasses := sub, abstract := ab, collection := col, hasDel := false } := by unfold PySem.W.clsIn; rw [hC] <;> rfl
  obtain ⟨t1, ho⟩ := exo_at I.hok e
  obtain ⟨hp, g, d, t, os⟩ := s
  refine PySem.W.set_plain I.kIn (ox := { cls := .ref C, dict := none, data := .fields #[.ref t1, .none, .none, .none, .bool false, .none] }) (od := none) ⟨ho, rfl, rfl, trivial⟩ T.sa ?_
  refine DPX.osa_g I.kIn ho hcl m1 m2 m3 rfl hno (fun h' tk' dx k dn dne hx hn => ?_)
  have hnd : H dx = none := I.hok.fresh dn
  have nd : ∀ {b : Addr} {o : Obj}, hp.get? b = some o → b ≠ dx := fun {b o} q => Nat.ne_of_lt (Nat.lt_of_lt_of_le (Heap.lt_size q) dn)
  have na : ∀ {b : Addr}, H b = none → b ≠ a := fun {b} n z => by
    rw [z, e] at n
    cases n
  have Un1 : Un X.fs [] H (upd (upd H dx (exd dx [(f, y)])) a (exo a C (some dx))) hp h' := {
    keep := fun b o q n _ _ => k b o (na n) q
    slot := fun b o q n _ _ => ⟨o.slots, k b o (na n) q⟩
    free := fun b o q n _ => by rw [upd_ne (na n), upd_ne (nd q)]; exact n
    there := fun b o q _ => by
      by_cases hb : b = a
      · exact ⟨_, by rw [hb]; exact hx⟩
      · exact ⟨o, k b o hb q⟩
    tups := fun b xs q => by rw [upd_ne (at_ne e q exo_tup), upd_ne (ne_of_none q hnd)]; exact q
    frzs := fun b o v q => by rw [upd_ne (at_ne e q exo_frz), upd_ne (ne_of_none q hnd)]; exact q
    tbls := fun b ps q => ⟨#[], by rw [upd_ne (at_ne e q exo_tbl), upd_ne (ne_of_none q hnd), q]; simp⟩ }
  refine h dx _ hnd dne (I.un (t' := tk') Un1 fun b o q => ?_)
  by_cases hb : b = a
  · subst hb
    rw [upd_same] at q
    cases q
    exact exo_ok hx
  · rw [upd_ne hb] at q
    by_cases hd : b = dx
    · subst hd
      rw [upd_same] at q
      cases q
      exact exd_ok hn (relO_put (fs := []) ry fun g => True.intro)
    · rw [upd_ne hd] at q
      exact (I.hok b o q).stay (fun c v hc z => k c v (by
          rcases hc with hc | hc
          · rw [hc]
            exact hb
          · exact at_ne e hc exo_own) z)
        (fun c hc => by rw [upd_ne (at_ne e hc exo_own), upd_ne (ne_of_none hc hnd)]; exact hc) (fun c xs hc => by rw [upd_ne (at_ne e hc exo_tup), upd_ne (ne_of_none hc hnd)]; exact hc)
end
def tOstG (K : PySem.W.Frag) (f : Str) (to te : TE) : TS := fun D σ H => te σ H fun y H1 => to σ H1 fun x H2 => ∃ a C : Addr, x = .ref a ∧ OexG K C ∧ PySem.W.findIn K (.ref C) f = some none ∧
  H2 a = some (exo a C none) ∧ ∀ dx, H2 dx = none → dx ≠ a → D.nx σ (upd (upd H2 dx (exd dx [(f, y)])) a (exo a C (some dx)))
theorem ps_ostG {X : Cx} {o e : Expr} {to te : TE} {f : Str} {p' pos : Pos} (ho : PE X o to) (he : PE X e te) (hs : swapsWith e (some (.Attribute o f p')) pos.line X.env = pure false := by rfl) : PS X (.Assign [.Attribute o f p'] e pos) (tOstG X.K f to te) := by
  refine ⟨fun pins s σ H D I h => ?_⟩
  refine plainObj_wpAny_Assign_Attribute (thn (he.run pins s σ H _ I h) fun v s1 ⟨y, H1, I1, r1, q1⟩ => thn (ho.run pins s1 σ H1 _ I1 q1) fun u s2 ⟨x, H2, I2, r2, a, C, ex, T, hno, ea, q⟩ => ?_) hs
  subst ex
  obtain rfl : u = Value.ref a := r2
  exact ost_newG T I2 ea hno r1 fun dx s' n ne J => ⟨σ, _, J, q dx n ne⟩
section
variable {X : Cx} {pins : List (Addr × Obj)} {σ : L2.St} {H : Hp} {s : Shared} {a C : Addr}
theorem check_bound_g {M : Model} {A : Around} {E : Value → Shared → Prop} {h : Heap} {g : Array GenState} {d : Drawn} {t : Nat} {os : OsState} {B iN newId : String} (F : InitR B iN) {nm q : Str} {C N e : Addr} {oe : Obj} {bs bm : List Value} {hdct : Bool} {sn : List Str} {sub : List Value} {ab : Bool} {col : Option Bool} {dd : Option Addr} {k0 k1 k2 k3 k5 : Option Value} {rest : List Value} {Q : Unit → Shared → Prop}
    (hC : h.get? C = some (excClassObj nm q C N bs bm hdct sn sub ab col dd k0 k1 k2 k3 k5 newId)) (he : h.get? e = some oe) (hcls : oe.cls = .ref C) (hq : Q () ⟨h, g, d, t, os⟩) : wpAny M A (checkBoundCall iN ⟨.ref e :: rest, []⟩) Q E ⟨h, g, d, t, os⟩ := by
  have hshort := F.star
  simp only [checkBoundCall, F.kind, F.row]
  repeat (first | (with_reducible refine wpAny_loadPart_at he ?_; rw [hcls]) | with_reducible refine wpAny_loadPart_at hC ?_ | wp_step)
  refine wpAny_onRaise ?_
  rw [show ∀ (a b : String) (n : Nat), Bind.check ⟨.positional, "*", B, .self, [⟨"args", .varPos, false⟩]⟩ a b n (List.map (fun x => x.fst) ({ pos := Value.ref e :: rest } : Args).kw) = pure () from
    fun a b n => check_star_args _ _ _ _ _ _]
  exact wpAny_pure hq
theorem obw_okG {B iN : String} {u : Addr} {us : List Value} {Q : Value → Shared → Prop} {E : Value → Shared → Prop} {A : Around} (T : OexG X.K C) (S : InitR B iN) (I : Inv X pins σ H s) (e : H a = some (exo a C none)) (hu : s.heap.get? u = some (PySem.W.kxs_mw iN a)) (hl : us.length ≤ sizeLine) (h : ∀ s', Inv X pins σ H s' → Q .none s') :
    wpAny (model X.prog X.w) A (call (.ref u) us) Q E s := by
  obtain ⟨nm, q, N, bs, bm, sn, sub, ab, col, dd, k0, k1, k2, k3, k5, nid, R, iR, bmR, FN, hC, hbm⟩ := T.cls
  obtain ⟨t1, ho⟩ := exo_at I.hok e
  have KI := I.kIn
  obtain ⟨hp, g, d, t, os⟩ := s
  refine wpAny_call (codeAny_of_tree ?_)
  show wpAny _ A.in1 (callAny (.ref u) ⟨us, []⟩) _ _ _
  simp only [callAny]
  refine wpAny_bind (wpAny_load hu ?_)
  simp only [PySem.W.kxs_mw, show (Value.type "method-wrapper" == Value.type "method" || Value.type "method-wrapper" == Value.type "builtin_function_or_method" || Value.type "method-wrapper" == Value.type "method-wrapper") = true by decide, if_true]
  refine PySem.W.KFB.if_so (by decide) ?_
  refine wpAny_bind (check_bound_g S (KI _ _ hC) ho rfl ?_)
  refine wpAny_bind (wpAny_pure (wpAny_pure ?_))
  refine ⟨plainId_quiet S.slot.plain _, codeAny_builtin S.entry ?_⟩
  refine PySem.W.exc_init_tree (cls := .ref C) (t0 := t1) (dv := none) (c2 := .none) (c3 := .none) (b4 := .bool false) ho hl fun h' k hx _ => ?_
  have J := I.write (t' := t) (x := a) (e := a) (o := exo a C none) (by rw [e]; exact True.intro) (.inl rfl) k ⟨_, hx⟩ (exo_ok hx)
  rw [exo_put e] at J
  exact h _ J
structure ExcIG (P : Program) (K : PySem.W.Frag) (C f c cc : Addr) (fld : Str) (B iN : String) : Prop where
  oex : OexG K C
  ini : InitR B iN
  own : PySem.W.findIn K (.ref C) fld = some none
  code : ∃ ccl cdd vs ccs file tf, K.lookup c = some (⟨ccl, cdd, .fields vs, ccs⟩ : Obj) ∧ vs[2]? = some (.str file tf) ∧ ((P.main.file : Str) == file) = true
  cell : ∃ cl cld csl, K.lookup cc = some (⟨cl, cld, .cell (some (.ref C)), csl⟩ : Obj)
  cls : ∃ cd, PySem.W.clsIn K C = some cd ∧ PySem.W.alongIn K "__init__" ((cd.mro.dropWhile (· != .ref C)).drop 1) = some (some (.builtin iN))
  self : PySem.W.mroIn K C (.ref C) = some true
  ve : PySem.W.subIn K (.ref C) (.type B) = some true
  third : PySem.W.nsIn K cStatics "thirdparty.any" = some none
  top : (P.main.scope.names.lookup ("super" : Str)).isSome = false
theorem super_stmtG {B iN : String} {f c cc : Addr} {fld : Str} {of : Obj} {fd : FuncData} {body : List Stmt} {p0 p1 p2 p3 p4 p5 : Pos} {txt : Str} {kk : Nat} {ar : Arg} {Q : Flow → Shared → Prop} {E : Value → Shared → Prop} (T : ExcIG X.prog X.K C f c cc fld B iN) (I : Inv X pins σ H s) (e : H a = some (exo a C none))
    (lkf : X.K.lookup f = some of) (hfd : of.data = .func fd) (har : (fd.params.posonlyargs ++ fd.params.args).head? = some ar) (hs0 : ar.arg = "self")
    (hfu : X.env.func = some f) (hco : X.env.code = .ref c) (hks : X.env.kindOf "super" = some .globalImplicit) (hkc : X.env.kindOf "__class__" = some .free) (hcc : X.env.cells.lookup ("__class__" : Str) = some cc) (hself : X.env.kindOf "self" = some .local)
    (hN : X.N[0]? = some ("self" : Str)) (hσ : σ[0]? = some (some (.ref a))) (hsup : X.mg "super" = none) (hint : interactive X.env = false) {pl : Sem Bool}
    (he : eval (.Call (.Attribute (.Call (.Name "super" p0) [] [] p1) "__init__" p2) [.Constant (.str txt) kk p3] [] p4) X.env = (do
      let ov ← attributeBase (.Call (.Name "super" p0) [] [] p1) "__init__" X.env (eval (.Call (.Name "super" p0) [] [] p1) X.env)
      standAt p2.atName
      let (f, first) ← holding [ov] (getMethod ov "__init__" pl)
      callWith p4 f first (backTo p4 (starEach [.Constant (.str txt) kk p3] X.env)) []))
    (h : ∀ s', Inv X pins σ H s' → Q .next s') :
    _root_.PySem.wpAt (model X.prog X.w) X.A (.func body X.env) (exec (.Expr (.Call (.Attribute (.Call (.Name "super" p0) [] [] p1) "__init__" p2) [.Constant (.str txt) kk p3] [] p4) p5) X.env) Q E s := by
  obtain ⟨ccl, cdd, vs, ccs, file, tf, lkc, hvs, hfile⟩ := T.code
  obtain ⟨cl, cld, csl, lkk⟩ := T.cell
  obtain ⟨cd, hcd, halong⟩ := T.cls
  obtain ⟨t1, ho⟩ := exo_at I.hok e
  have KI := I.kIn
  obtain ⟨mb, b1, b2⟩ := I.mod.blt
  obtain ⟨m, hns, hloc⟩ := I.loc
  obtain ⟨oD, hD1, hD2⟩ : ∃ oD, s.heap.get? C = some oD ∧ oD.data = .cls cd := by
    unfold PySem.W.clsIn at hcd
    split at hcd
    · rename_i q
      cases hcd
      exact ⟨_, KI _ _ q, rfl⟩
    · cases hcd
  have hne : a ≠ C := exc_ne (u := .own a) I.hok KI e hcd
  refine PySem.ks_wpAt_Expr_any (PySem.ks_wpAt_MethodCall (pl := pl) ?_ he) hint
  refine PySem.ks_wpAt_super_base hks hkc rfl hfu (KI _ _ lkf) hfd har hco (KI _ _ lkc) rfl hvs hfile T.top ?_
  refine PySem.W.ks_loadName_global I.ok.kind hks (Calls.loadGlobal_builtin (by rw [I.ok.glob]; exact I.mod.glob.keeps I.bk) hsup (by rw [I.ok.blt]; exact b1.keeps I.bk) ((b2 _ (by decide)).trans PyProof.Rows.Boot.«super») ⟨rfl, ?_⟩)
  refine wpAny_loadName_free I.ok.kind hkc hcc ⟨_, KI _ _ lkk, rfl⟩ ?_
  rw [hs0]
  obtain ⟨u, ru, lu⟩ := hloc 0 "self" (.ref a) hN hσ (.inl hself)
  have ru : u = Value.ref a := ru
  subst ru
  have hm : m "self" = some (.ref a) := by
    rcases lu with ⟨_, z⟩ | ⟨z | z, _⟩
    · exact z
    · rw [hself] at z; cases z
    · rw [hself] at z; cases z
  refine wpAny_loadName_local I.ok.kind hself hns hm ?_
  obtain ⟨hh, g, d, t, os⟩ := s
  refine PySem.ks_wpAny_isType_cls hD1 hD2 ⟨rfl, ?_⟩
  refine PySem.ks_wpAny_call_super hD1 hD2 ho rfl (fun c e => by cases e) (PySem.W.looks_mroIn KI T.self) (fun h' e1 k => ?_)
  have J : Inv X pins σ H ⟨h', g, d, t, os⟩ := I.kept (t' := t) k
  have J1 : Inv X pins σ H ⟨h'.push (PySem.W.kxs_mw iN a), g, d, t + 1, os⟩ := J.kept (t' := t + 1) fun b o q => Heap.get?_push_of_some _ q
  have hx : h'.get? a = some _ := k _ _ ho
  have hI : PySem.W.Looks (model X.prog X.w) h' (isInstance (.ref a) (.type B)) true := (PySem.W.InstAt.type (x := a) (ox := { cls := .ref C, data := .fields #[.ref t1, .none, .none, .none, .bool false, .none] }) (C := C) (od := none) ⟨hx, rfl, rfl, trivial⟩).andThen (PySem.W.looks_subIn J.kIn T.ve)
  refine PySem.W.kxs_getMethod T.ini.kx e1 (PySem.W.looks_opaque J.kIn T.third) (l₀ := cd.mro) ?_ rfl J.kIn halong hI hne rfl ?_
  · exact fun A Q E s k q => wpAny_bind ((PySem.W.looks_clsIn J.kIn hcd) A _ E s k (wpAny_pure q))
  refine PySem.W.kxs_callWith (i := iN) (x := a) (by rfl) ?_
  show wpAny _ _ (evalArgs (.ref h'.objs.size) true ((false, eval (.Constant (.str txt) kk p3) X.env) :: _) []) _ _ _
  refine Calls.evalArgs_plain (PyProof.Rows.args_cons (e := .Constant (.str txt) kk p3) (Calls.Constant_str (PyProof.Rows.args_nil ?_)) rfl)
  have hu : (h'.push (PySem.W.kxs_mw iN a)).get? h'.objs.size = some (PySem.W.kxs_mw iN a) := Heap.get?_push_size _ rfl
  exact ⟨hu, obw_okG T.oex T.ini (J1.tok _) e hu (by show 1 ≤ sizeLine; decide) fun s' J2 => h s' J2⟩
end
section
variable {P : Program} {w : World} {K : PySem.W.Frag} {mg : Str → Option Value} {base : Heap} {CX : CXT} {k : Nat} {f C c cc : Addr} {name qual fld arg txt : Str} {params : Arguments} {scope : Scope} {dV kV doc pm ct oc : Value} {an od : Option Addr} {osl : Array (Option Value)}
  {kk : Nat} {p0 p1 p2 p3 p4 p5 q0 q1 q2 q3 : Pos}
theorem fn_einitG {B iN : String} (T : ExcIG P K C f c cc fld B iN) (lk : K.lookup f = some ⟨oc, od, .func (PySem.W.fnX name qual params (eBody fld arg txt kk p0 p1 p2 p3 p4 p5 q0 q1 q2 q3) scope [("__class__", cc)] dV kV doc pm an (.ref c) ct), osl⟩) (hcd : PySem.W.codeIn K (.ref c) qual = true)
    (S : NdefX.NScope ["self", arg, "__class__"] ["self", arg] ["__class__"] scope) (hks : scope.names.lookup ("super" : Str) = some NameKind.globalImplicit) {ar : Arg} (har : (params.posonlyargs ++ params.args).head? = some ar) (hs0 : ar.arg = "self") (hsup : mg "super" = none) (hd1 : (("self" : Str) == ("__debug__" : Str)) = false := by decide) (hd2 : (arg == ("__debug__" : Str)) = false := by decide) (hd3 : (arg == ("__classdict__" : Str)) = false := by decide) {pl : Addr → Sem Bool}
    (he : ∀ L : Addr, eval (.Call (.Attribute (.Call (.Name "super" p0) [] [] p1) "__init__" p2) [.Constant (.str txt) kk p3] [] p4) (PySem.W.envX qual scope L f (.ref c) [("__class__", cc)]) = (do
      let ov ← attributeBase (.Call (.Name "super" p0) [] [] p1) "__init__" (PySem.W.envX qual scope L f (.ref c) [("__class__", cc)]) (eval (.Call (.Name "super" p0) [] [] p1) (PySem.W.envX qual scope L f (.ref c) [("__class__", cc)]))
      standAt p2.atName
      let (g, first) ← holding [ov] (getMethod ov "__init__" (pl L))
      callWith p4 g first (backTo p4 (starEach [.Constant (.str txt) kk p3] (PySem.W.envX qual scope L f (.ref c) [("__class__", cc)]))) [])) :
    FnOk P w K mg base CX 1 f (PySem.W.fnX name qual params (eBody fld arg txt kk p0 p1 p2 p3 p4 p5 q0 q1 q2 q3) scope [("__class__", cc)] dV kV doc pm an (.ref c) ct) ["self", arg] (spE C fld) := by
  refine ⟨fun vs H Q E ⟨a, v, e, _⟩ => by rw [e]; rfl, fun A outer s H args us vs Q E hr e0 hb r hsp => ?_⟩
  obtain ⟨a, v, rfl, ea, hq⟩ := hsp
  have KB := e0.mod.kin
  have KX : K.In s.heap := KB.keeps fun b o e => (e0.bs b o e).1
  have lim : s.heap.NoLimit := e0.mod.nolimit.keeps fun b o e => (e0.bs b o e).1
  obtain ⟨cl, cld, csl, lkk⟩ := T.cell
  have CA : NdefX.CellsAt [("__class__", cc)] ["__class__"] [none] s.heap H := by
    refine ⟨rfl, fun y c0 hy => ?_, fun x y c0 hx hy => ?_, fun i y hi => ?_⟩
    · have hc : c0 = cc := by
        simp only [List.lookup] at hy
        split at hy
        · exact (Option.some.inj hy).symm
        · cases hy
      subst hc
      exact ⟨(e0.bs _ _ (KB _ _ lkk)).2, _, _, KX _ _ lkk, rfl⟩
    · simp only [List.lookup] at hx hy
      split at hx
      · rename_i h1
        split at hy
        · rename_i h2
          rw [beq_iff_eq] at h1 h2
          rw [h1, h2]
        · cases hy
      · cases hx
    · cases i with
      | zero =>
        cases hi
        exact ⟨cc, by simp [List.lookup], fun v hv => by cases hv⟩
      | succ i => cases hi
  let F : NdefX.NF := ⟨name, qual, params, eBody fld arg txt kk p0 p1 p2 p3 p4 p5 q0 q1 q2 q3, scope, [("__class__", cc)], c⟩
  refine PySem.ks_codeAny_call_defAt (binds := (["self", arg] : List Str).zip us) hr.depth (KX _ _ lk) rfl lim (PySem.W.codeRec_of KX hcd) rfl hb S.nocell (fun ⟨n, z⟩ hy => S.par n (List.of_mem_zip hy).1) (fun h₁ hns kp => ?_) S.co S.gen S.kind
  have hl : ([V.ref a, v] : List V).length = (["self", arg] : List Str).length := rfl
  have I : Inv (NdefX.ncx CX P w K mg base ["self", arg, "__class__"] F f A outer s H E) [] (NdefX.startF ["self", arg, "__class__"] [.ref a, v] [none]) H { s with heap := h₁, toks := s.toks + ((["self", arg] : List Str).zip us).length } := NdefX.inv_startN S hr.hd e0 hl r CA hns kp
  refine PySem.ks_wpAt_execs_cons (super_stmtG (X := NdefX.ncx CX P w K mg base ["self", arg, "__class__"] F f A outer s H E) T I ea lk rfl har hs0 rfl rfl hks (S.frk _ (by simp)) (by simp [NdefX.ncx, List.lookup, F]) (S.par _ (by simp)) rfl rfl hsup (by unfold interactive; simp [NdefX.ncx, F, S.kind]) (he s.heap.objs.size) fun s2 I2 => ?_)
  refine wpAt_of_wpAny ?_
  have hps : PSs (NdefX.ncx CX P w K mg base ["self", arg, "__class__"] F f A outer s H E) [.Assign [.Attribute (.Name "self" q0) fld q1] (.Name arg q2) q3] _ := pss_one (ps_ostG (pe_var (i := 0) rfl (.inl (S.par _ (by simp))) hd1 (by decide)) (pe_var (i := 1) rfl (.inl (S.par _ (by simp))) hd2 hd3))
  refine wpAny_mono (hps.run [] s2 (NdefX.startF ["self", arg, "__class__"] [.ref a, v] [none]) H { nx := fun _ H' => Q .non H', rt := Q } I2 ?_) (fun fl s' hs => ?_) fun e s' hs => hs
  · exact ⟨v, rfl, .ref a, rfl, a, C, rfl, T.oex, T.own, ea, fun dx n ne => hq dx n ne⟩
  · cases fl with
    | next =>
      obtain ⟨σ', H', J, q⟩ := hs
      exact ⟨.non, H', J.os, J.bare, J.base, J.hok, rfl, q⟩
    | ret u =>
      obtain ⟨v', σ', H', J, rv, q⟩ := hs
      exact ⟨v', H', J.os, J.bare, J.base, J.hok, rv, q⟩
    | brk =>
      obtain ⟨_, _, _, q⟩ := hs
      exact False.elim q
    | cont =>
      obtain ⟨_, _, _, q⟩ := hs
      exact False.elim q
end
section
variable {X : Cx}
theorem pe_oexG {CX : CXT} {x : Str} {C fI : Addr} {k : Nat} {fd : FuncData} {ps : List Str} {sp : Sp} {ds : List Value} {dvs : List V} {e : Expr} {es : List Expr} {ta : TA} {p pos : Pos} (T : OexG X.K C) (iC : PySem.W.findIn X.K (.ref C) "__init__" = some (some (.ref fI))) (tI : PySem.W.typeIn X.K (.ref fI) = some (.type "function"))
    (F1 : FnOk X.prog X.w X.K X.mg X.base CX k fI fd ps sp) (hr : Room (k + 1) X.A) (hb : Binds X.K fd ps ds) (hd : Vals dvs ds) (hx : Passes CX X (fun _ _ _ => False)) (hg : Gl X x) (hm : X.mg x = some (.ref C)) (ha : PA X (e :: es) ta)
    (hdb : (x == ("__debug__" : Str)) = false := by decide) (he : starEach (e :: es) X.env = (false, eval e X.env) :: starEach es X.env := by rfl) (hpl : (backTo pos (starEach es X.env)).any (·.1) = false := by rfl) :
    PE X (.Call (.Name x p) (e :: es) [] pos) (tMkV C sp dvs ta) := by
  refine ⟨fun pins s σ H Q I h => ?_⟩
  obtain ⟨nm, q, N, bs, bm, sn, sub, ab, col, dd, k0, k1, k2, k3, k5, nid, R, iR, bmR, FN, hC, hbm⟩ := T.cls
  refine wpAny_Call_Name_kw (ld_glob I hg hm ?_ hdb)
  refine PySem.W.callWith_K (h₀ := X.base) I.ok.mod.kin T.kC (thn (ha.run pos pins s σ H _ I h) fun us s1 ⟨vs, H1, I1, r1, hz, q1⟩ => ⟨I1.kIn, ?_⟩) he hpl
  show wpAny _ _ (call (.ref C) us) _ _ _
  obtain ⟨hp, g, dr, tk, os⟩ := s1
  have hsz : hp.objs.size ≤ hp.objs.size + 1 := Nat.le_succ _
  have hn : H1 (hp.objs.size + 1) = none := I1.hok.fresh hsz
  have hq := q1 (hp.objs.size + 1) hn
  have kk : ∀ b o, hp.get? b = some o → ((hp.push (PySem.W.kdv_tup us)).push (PySem.HandSPX.excO C hp.objs.size)).get? b = some o := fun b o e => Heap.get?_push_of_some _ (Heap.get?_push_of_some _ e)
  have hget : ((hp.push (PySem.W.kdv_tup us)).push (PySem.HandSPX.excO C hp.objs.size)).get? (hp.objs.size + 1) = some (PySem.HandSPX.excO C hp.objs.size) := by heap_get
  have I2 : Inv X pins σ (upd H1 (hp.objs.size + 1) (exo (hp.objs.size + 1) C none)) ⟨(hp.push (PySem.W.kdv_tup us)).push (PySem.HandSPX.excO C hp.objs.size), g, dr, tk, os⟩ :=
    I1.laid (t' := tk) (a := hp.objs.size + 1) (o := exo (hp.objs.size + 1) C none) (h' := (hp.push (PySem.W.kdv_tup us)).push (PySem.HandSPX.excO C hp.objs.size)) kk hsz (exo_ok hget)
  have r2 : Vals (V.ref (hp.objs.size + 1) :: (vs ++ dvs)) (Value.ref (hp.objs.size + 1) :: (us ++ ds)) := .cons rfl (r1.append hd)
  have hl : (Value.ref (hp.objs.size + 1) :: us ++ ds).length = ps.length := by
    have e := r2.length
    rw [F1.len _ _ _ _ hq] at e
    exact e.symm
  have hus : us.length ≤ sizeLine := by
    rw [← Paired.length r1, sizeLine_eq]
    omega
  refine wpAny_call (DPX.call_g FN hbm (I1.kIn _ _ hC) (PySem.W.looks_findIn I1.kIn iC) (fun self => PySem.W.bind_fn I1.kIn self tI) hus
    (codeAny_mono (F1.run _ X.stack _ _ ⟨Value.ref (hp.objs.size + 1) :: us, []⟩ (Value.ref (hp.objs.size + 1) :: (us ++ ds)) _ _ (fun _ _ _ => False) (hr.make C us []) (I2.env0.make C us []) (hb _ (Value.ref (hp.objs.size + 1) :: us) I2.kIn hl) r2 hq) fun r s' hq' => ?_))
  cases r with
  | error er => exact hx pins σ _ _ er s' I2 hq'
  | ok fl =>
    cases fl with
    | ret u =>
      obtain ⟨v, H2, os2, bare2, un2, hok2, rv, ev, d, fs, ea, ed, hd1, q2⟩ := hq'
      subst ev
      obtain ⟨h2, g2, d2, t2, os'⟩ := s'
      exact ⟨rv, .ref (hp.objs.size + 1), _, mk_endV I1 hsz kk un2 hok2 os2 bare2 ea ed hd1, rfl, q2⟩
    | next => exact False.elim hq'
    | brk => exact False.elim hq'
    | cont => exact False.elim hq'
end
/-- an own exception class at the global name x, its one field -/
structure ExcFG (P : Program) (w : World) (K : PySem.W.Frag) (mg : Str → Option Value) (base : Heap) (x fld : Str) : Prop where
  oex : OexG K (He.ga K x)
  mgx : mg x = some (.ref (He.ga K x))
  init : ∃ fI fd ps, PySem.W.findIn K (.ref (He.ga K x)) "__init__" = some (some (.ref fI)) ∧ PySem.W.typeIn K (.ref fI) = some (.type "function") ∧ FnOk P w K mg base (L2.CX P w) 1 fI fd ps (spE (He.ga K x) fld) ∧ Binds K fd ps []
theorem ExcFG.of {P : Program} {w : World} {K : PySem.W.Frag} {mg : Str → Option Value} {base : Heap} {x fld : Str} (F : ExcF P w K mg base x fld) : ExcFG P w K mg base x fld := ⟨.of F.oex, F.mgx, F.init⟩
section
variable {D : DC} {Wx : WX} {X : Cx} {x fld fld2 : Str} {e e2 : Expr} {me me2 : EM} {p pos pos2 : Pos}
theorem de_mkEG (F : ExcFG X.prog X.w X.K X.mg X.base x fld) (st : D.st = true) (tk : L2.Takes X Wx) (hr : Room 2 X.A) (hg : Gl X x) (hK : D.K = X.K) (he : DE D Wx X e me) (hdb : (x == ("__debug__" : Str)) = false := by decide) (hs : starEach [e] X.env = (false, eval e X.env) :: starEach [] X.env := by rfl) :
    DE D Wx X (.Call (.Name x p) [e] [] pos) (eMkE x fld me) := by
  obtain ⟨fI, fd, ps, iC, tI, F1, hb⟩ := F.init
  have hx : Passes (L2.CX X.prog X.w) X (fun _ _ _ => False) := L2.passes_call tk fun _ _ _ _ z => z.elim
  refine PE.mono (pe_oexG F.oex iC tI F1 hr hb .nil hx hg F.mgx (pa_cons he pa_nil hs) hdb hs rfl) fun σ H Q ⟨ca, ms, r, h⟩ => ?_
  refine RdE.bind r h fun w v ms1 ca1 H1 x1 r1 p1 h1 => ?_
  refine ⟨by show 1 ≤ 1000; decide, fun a ha => ⟨a, v, rfl, upd_same, fun dx hdx hne => ?_⟩⟩
  have hdx1 : H1 dx = none := by rw [upd_ne hne] at hdx; exact hdx
  refine ⟨rfl, dx, [(fld, v)], upd_same, ?_, hdx1, ?_⟩
  · rw [upd_ne hne, upd_same]
  · have eh : upd (upd (upd (upd (upd H1 a (exo a (He.ga X.K x) none)) dx (exd dx [(fld, v)])) a (exo a (He.ga X.K x) (some dx))) dx (.xd [(fld, v)])) a (exw a (He.ga X.K x) (some dx)) = upd (upd H1 a (exw a (He.ga D.K x) (some dx))) dx (.xd [(fld, v)]) := by
      rw [hK]
      funext b
      by_cases hb2 : b = a
      · rw [hb2, upd_same, upd_ne (Ne.symm hne), upd_same]
      · rw [upd_ne hb2]
        by_cases hb1 : b = dx
        · rw [hb1, upd_same, upd_same]
        · rw [upd_ne hb1, upd_ne hb1, upd_ne hb2, upd_ne hb1, upd_ne hb2, upd_ne hb2]
    rw [eh]
    obtain ⟨xt, r3, pv⟩ := r1.newexc (c := x) (fs := [(fld, w)]) (fs' := [(fld, v)]) st ha hdx1 hne (by
      simp only [RpFs]
      exact ⟨v, [], rfl, p1, rfl⟩)
    exact h1 (.ref a) _ _ (x1.trans xt) r3 pv
end
end DL
namespace DL
open PySem PySem.Spec PyProof.Rows L2
open He (ba eqO eqO_ok)
theorem kxs_KE : PySem.W.KxsFacts "KeyError" "KeyError.__init__" := ⟨by show builtinType _ = _; rw [builtinType_eq_fast]; kernel_rfl, by first | kernel_rfl | rfl⟩
theorem initR_KE : InitR "KeyError" "KeyError.__init__" where
  kx := kxs_KE
  kind := by kernel_rfl
  row := by kernel_rfl
  star := by decide +kernel
  slot := .of (owner := "KeyError") (n := "__init__") (by rw [typeLookup_type, builtinLookup_eq_fast]; kernel_rfl) (by decide +kernel) (by decide +kernel) (by decide +kernel)
    (by first | exact .inl (by decide +kernel) | exact .inr (by decide +kernel)) (by rw [isSubtype_type]; kernel_rfl)
  entry := entryFor_alias (id' := "BaseException.__init__") (by rw [fastTable_eq_tree]; kernel_rfl) (by first | rfl | decide +kernel) (by decide +kernel) (by rw [fastTable_eq_tree]; kernel_rfl)
def RootOk (r : String × String × String × List Value) : Prop := (∃ R iR bmR, ExcBaseFacts R r.2.1 iR bmR ∧ DPX.BmOk R r.2.2.2) ∧ InitR r.1 r.2.2.1
theorem root_OE : RootOk (rootD 1) := ⟨⟨_, _, _, PySem.F.excBase_OverflowError, ⟨by decide +kernel, by decide +kernel, by decide +kernel, by decide +kernel, fun self => by kernel_rfl⟩⟩, initR_of PySem.F.excBase_OverflowError.toExcCallFacts PySem.W.kxs_OverflowError⟩
theorem root_RE : RootOk (rootD 2) := ⟨⟨_, _, _, PySem.F.excBase_RuntimeError, ⟨by decide +kernel, by decide +kernel, by decide +kernel, by decide +kernel, fun self => by kernel_rfl⟩⟩, initR_of PySem.F.excBase_RuntimeError.toExcCallFacts PySem.W.kxs_RuntimeError⟩
theorem root_KE : RootOk (rootD 3) := ⟨⟨_, _, _, PySem.F.excBase_LookupError, ⟨by decide +kernel, by decide +kernel, by decide +kernel, by decide +kernel, fun self => by kernel_rfl⟩⟩, initR_KE⟩
theorem root_ok : ∀ n : Nat, RootOk (rootD n)
  | 1 => root_OE
  | 2 => root_RE
  | 0 => root_KE
  | 3 => root_KE
  | _ + 4 => root_KE
theorem oexR_ok {r : String × String × String × List Value} (RT : RootOk r) {K : PySem.W.Frag} {C : Addr} (h : oexR r.2.1 r.2.2.2 K C = true) : OexG K C := by
  obtain ⟨⟨R, iR, bmR, F, O⟩, _⟩ := RT
  obtain ⟨q, h⟩ := ba h
  obtain ⟨h2, h⟩ := ba h
  obtain ⟨h3, h⟩ := ba h
  obtain ⟨h4, h5⟩ := ba h
  refine ⟨?_, eqO_ok h2, of_decide_eq_true h3, of_decide_eq_true h4, h5⟩
  split at q
  · rename_i dd cd sl ho
    split at q
    · rename_i C' bm k0 k1 k2 k3 n k5 hm hs
      simp only [Bool.and_eq_true, beq_iff_eq, Bool.not_eq_true'] at q
      obtain ⟨⟨⟨⟨rfl, hn⟩, hdel⟩, hdct⟩, ht⟩ := q
      obtain ⟨nm, bs, mro, ns, qn, hd, sn, sub, ab, col, del⟩ := cd
      dsimp only at hm hdel hdct
      subst hm hdel hdct
      have hsl : sl = #[k0, k1, k2, k3, some (.builtin r.2.1), k5] := by
        obtain ⟨l⟩ := sl
        simp only at hs
        rw [hs, hn]
      subst hsl
      exact ⟨nm, qn, ns, bs, bm, sn, sub, ab, col, dd, k0, k1, k2, k3, k5, _, R, iR, bmR, F, ho, by rw [ht]; exact O⟩
    · cases q
  · cases q
section
variable {P : Program} {w : World} {K : PySem.W.Frag} {mg : Str → Option Value} {base : Heap} {d : ExD} {arg txt : Str} {kk : Nat} {p0 p1 p2 p3 p4 p5 q0 q1 q2 q3 : Pos}
theorem excFG_of (hv : exW K d = d.val) (h : d.ok P K = true) (hmx : mg d.name = some (.ref (He.ga K d.name))) (hbd : d.body = eBody d.fld arg txt kk p0 p1 p2 p3 p4 p5 q0 q1 q2 q3)
    (S : NdefX.NScope ["self", arg, "__class__"] ["self", arg] ["__class__"] d.scope) (hks : d.scope.names.lookup ("super" : Str) = some NameKind.globalImplicit) {ar : Arg} (har : (d.params.posonlyargs ++ d.params.args).head? = some ar) (hs0 : ar.arg = "self") (hsup : mg "super" = none)
    (hbi : ∀ (cl : List (Str × Addr)) (kV doc pm : Value) (an : Option Addr) (cdv ct u v : Value), bindArgs (PySem.W.fnX "__init__" d.qual d.params d.body d.scope cl .none kV doc pm an cdv ct) ⟨[u, v], []⟩ = pure ((["self", arg] : List Str).zip [u, v]))
    (hd1 : (("self" : Str) == ("__debug__" : Str)) = false) (hd2 : (arg == ("__debug__" : Str)) = false) (hd3 : (arg == ("__classdict__" : Str)) = false) {pl : Addr → Addr → Addr → Addr → Sem Bool}
    (he : ∀ f c cc L : Addr, eval (.Call (.Attribute (.Call (.Name "super" p0) [] [] p1) "__init__" p2) [.Constant (.str txt) kk p3] [] p4) (PySem.W.envX d.qual d.scope L f (.ref c) [("__class__", cc)]) = (do
      let ov ← attributeBase (.Call (.Name "super" p0) [] [] p1) "__init__" (PySem.W.envX d.qual d.scope L f (.ref c) [("__class__", cc)]) (eval (.Call (.Name "super" p0) [] [] p1) (PySem.W.envX d.qual d.scope L f (.ref c) [("__class__", cc)]))
      standAt p2.atName
      let (g, first) ← holding [ov] (getMethod ov "__init__" (pl f c cc L))
      callWith p4 g first (backTo p4 (starEach [.Constant (.str txt) kk p3] (PySem.W.envX d.qual d.scope L f (.ref c) [("__class__", cc)]))) [])) (hr0 : d.root ≠ 0 := by decide) :
    ExcFG P w K mg base d.name d.fld := by
  have h : d.okR P K = true := by
    unfold ExD.ok at h
    rw [if_neg hr0] at h
    exact h
  have RT := root_ok d.root
  obtain ⟨h1, h⟩ := ba h
  obtain ⟨h2, h⟩ := ba h
  obtain ⟨h3, h⟩ := ba h
  obtain ⟨h4, h⟩ := ba h
  obtain ⟨h5, h⟩ := ba h
  obtain ⟨h6, h⟩ := ba h
  obtain ⟨h7, h⟩ := ba h
  obtain ⟨h8, h⟩ := ba h
  obtain ⟨h9, h⟩ := ba h
  have T1 := oexR_ok RT h1
  unfold exW at hv
  cases q : K.lookup (d.f K) with
  | none => rw [q] at h; cases h
  | some o =>
    rw [q] at h hv
    obtain ⟨oc, od, dt, osl⟩ := o
    cases dt with
    | func fd =>
      obtain ⟨n1, n2, n3, n4, n5, n6, n7, n8, n9, n10, n11, n12, n13, n14, n15⟩ := fd
      have e2 : (some (n1, n2, n3, n4, n5, n6, n7.map (·.1), n15) : ExW) = some (("__init__" : Str), d.qual, d.params, FuncBody.stmts d.body, d.scope, mainGlobals, (["__class__"] : List Str), builtinsNs) := hv
      simp only [Option.some.injEq, Prod.mk.injEq] at e2
      obtain ⟨k1, k2, k3, k4, k5, k6, k7, k8⟩ := e2
      subst k1 k2 k3 k4 k5 k6 k8
      obtain ⟨c, nm, cc, rfl, rfl, c3⟩ := two_of (n13 := n13) (n7 := n7) (f := fun c cc => PySem.W.codeIn K (.ref c) d.qual && (codeB P K c && cellB K cc (d.C K))) (ba h).2
      · have hdn : n8 = .none := of_decide_eq_true (ba h).1
        subst hdn
        obtain ⟨z1, z2⟩ := ba c3
        obtain ⟨z2, z3⟩ := ba z2
        have hnm : nm = ("__class__" : Str) := by simpa using k7
        subst hnm
        have T : ExcIG P K (d.C K) (d.f K) c cc d.fld (rootD d.root).1 (rootD d.root).2.2.1 := by
          refine ⟨T1, RT.2, eqO_ok h2, ?_, ?_, ?_, of_decide_eq_true h4, of_decide_eq_true h5, eqO_ok h6, by simpa using h7⟩
          · unfold codeB at z2
            split at z2
            · rename_i a1 a2 vs a3 e1
              split at z2
              · rename_i file tf e3
                exact ⟨_, _, vs, _, file, tf, e1, e3, of_decide_eq_true z2⟩
              · cases z2
            · cases z2
          · unfold cellB at z3
            split at z3
            · rename_i a1 a2 C' a3 e1
              have e : C' = d.C K := beq_iff_eq.mp z3
              subst e
              exact ⟨_, _, _, e1⟩
            · cases z3
          · unfold clsR at h3
            split at h3
            · rename_i cd e1
              exact ⟨cd, e1, eqO_ok h3⟩
            · cases h3
        have F := fn_einitG (P := P) (w := w) (K := K) (mg := mg) (base := base) (CX := L2.CX P w) (f := d.f K) (C := d.C K) (c := c) (cc := cc) (name := "__init__") (qual := d.qual) (fld := d.fld) (arg := arg) (txt := txt) (params := d.params) (scope := d.scope)
          (dV := .none) (kV := n9) (doc := n10) (pm := n11) (ct := n14) (oc := oc) (an := n12) (od := od) (osl := osl) (kk := kk) (p0 := p0) (p1 := p1) (p2 := p2) (p3 := p3) (p4 := p4) (p5 := p5) (q0 := q0) (q1 := q1) (q2 := q2) (q3 := q3)
          T (by rw [q, hbd]) z1 S hks har hs0 hsup hd1 hd2 hd3 (pl := fun L => pl (d.f K) c cc L) (fun L => he (d.f K) c cc L)
        refine ⟨T1, hmx, d.f K, _, _, eqO_ok h8, of_decide_eq_true h9, F, .all fun us hl => ?_⟩
        match us, hl with
        | [u, v], _ =>
          have z := hbi [("__class__", cc)] n9 n10 n11 n12 (.ref c) n14 u v
          rw [hbd] at z
          exact z
    | _ => cases h
end
end DL
namespace DL
open PySem PySem.Spec PyProof.Rows L2
open He (ba eqO eqO_ok)
def excCB (K : PySem.W.Frag) (D : Addr) : Bool :=
  eqO (PySem.W.findIn K (.ref D) "__getattribute__") (some (some (.builtin "BaseException.__getattribute__"))) && (eqO (PySem.W.findIn K (.ref D) "__getattr__") (some none) && (decide (PySem.W.subIn K (.ref D) (.type "BaseException") = some true) && (PySem.W.hasDictIn K D &&
  (eqO (PySem.W.findIn K (.ref D) "__class__") (some (some (.builtin "object.__class__"))) && (decide (PySem.W.specialIn K (.builtin "object.__class__") "__get__" = some (some (.builtin "getset_descriptor.__get__"))) && (decide (PySem.W.takesIn K (.builtin "object.__class__") = some true) && decide (PySem.W.mroIn K D (.type "object") = some true)))))))
theorem excCB_ok {K : PySem.W.Frag} {D : Addr} (h : excCB K D = true) : ExcC K D := by
  obtain ⟨h1, h⟩ := ba h
  obtain ⟨h2, h⟩ := ba h
  obtain ⟨h3, h⟩ := ba h
  obtain ⟨h4, h⟩ := ba h
  obtain ⟨h5, h⟩ := ba h
  obtain ⟨h6, h⟩ := ba h
  obtain ⟨h7, h8⟩ := ba h
  exact ⟨eqO_ok h1, eqO_ok h2, of_decide_eq_true h3, h4, eqO_ok h5, of_decide_eq_true h6, of_decide_eq_true h7, of_decide_eq_true h8⟩
def kitOkB (K : PySem.W.Frag) (cs : List Str) (cv : Value) (bs : List Str) : Bool := (cs.all fun d => decide (PySem.W.kitOne K (.ref (He.ga K d)) cv = some (decide (d ∈ bs)))) && isiKinds.all fun n => decide (PySem.W.kitOne K (.type n) cv = some false)
/-- the classes cs, those that are asked for: own ones, built-in ones -/
def isxB (cs : List Str) (qo : List (Str × List Str)) (qb : List (String × List Str)) (K : PySem.W.Frag) : Bool := (cs.all fun d => excCB K (He.ga K d)) && ((qo.all fun q => kitOkB K cs (.ref (He.ga K q.1)) q.2) && qb.all fun q => kitOkB K cs (.type q.1) q.2)
section
variable {K : PySem.W.Frag} {cs bs : List Str} {qo : List (Str × List Str)} {qb : List (String × List Str)} {cv : Value}
theorem kit_at (hc : ∀ d ∈ cs, excCB K (He.ga K d) = true) (h : kitOkB K cs cv bs = true) : (∀ d ∈ cs, ExcC K (He.ga K d) ∧ PySem.W.kitOne K (.ref (He.ga K d)) cv = some (decide (d ∈ bs))) ∧ ∀ n ∈ isiKinds, PySem.W.kitOne K (.type n) cv = some false := by
  obtain ⟨h1, h2⟩ := ba h
  exact ⟨fun d hd => ⟨excCB_ok (hc d hd), of_decide_eq_true (List.all_eq_true.mp h1 d hd)⟩, fun n hn => of_decide_eq_true (List.all_eq_true.mp h2 n hn)⟩
theorem isx_own (h : isxB cs qo qb K = true) (i : Nat) {x : Str} (hi : qo[i]? = some (x, bs) := by rfl) : (∀ d ∈ cs, ExcC K (He.ga K d) ∧ PySem.W.kitOne K (.ref (He.ga K d)) (.ref (He.ga K x)) = some (decide (d ∈ bs))) ∧ ∀ n ∈ isiKinds, PySem.W.kitOne K (.type n) (.ref (He.ga K x)) = some false := by
  obtain ⟨h1, h2⟩ := ba h
  obtain ⟨h2, h3⟩ := ba h2
  exact kit_at (fun d hd => List.all_eq_true.mp h1 d hd) (List.all_eq_true.mp h2 (x, bs) (List.mem_of_getElem? hi))
theorem isx_blt (h : isxB cs qo qb K = true) (i : Nat) {x : String} (hi : qb[i]? = some (x, bs) := by rfl) : (∀ d ∈ cs, ExcC K (He.ga K d) ∧ PySem.W.kitOne K (.ref (He.ga K d)) (.type x) = some (decide (d ∈ bs))) ∧ ∀ n ∈ isiKinds, PySem.W.kitOne K (.type n) (.type x) = some false := by
  obtain ⟨h1, h2⟩ := ba h
  obtain ⟨h2, h3⟩ := ba h2
  exact kit_at (fun d hd => List.all_eq_true.mp h1 d hd) (List.all_eq_true.mp h3 (x, bs) (List.mem_of_getElem? hi))
end
section
variable {D : DC} {Wx : WX} {X : Cx} {a : Expr} {ma : EM} {cs bs : List Str} {xT : Str} {T : String} {pos p p2 : Pos}
theorem de_isO (hK : D.K = X.K) (hg : Gl X "isinstance") (hm : X.mg "isinstance" = none) (hgT : Gl X xT) (hmT : X.mg xT = some (.ref (He.ga X.K xT)))
    (hx : (∀ d ∈ cs, ExcC X.K (He.ga X.K d) ∧ PySem.W.kitOne X.K (.ref (He.ga X.K d)) (.ref (He.ga X.K xT)) = some (decide (d ∈ bs))) ∧ ∀ n ∈ isiKinds, PySem.W.kitOne X.K (.type n) (.ref (He.ga X.K xT)) = some false)
    (ha : DE D Wx X a ma) (hdT : (xT == ("__debug__" : Str)) = false := by decide) (hs2 : starEach [a, .Name xT p2] X.env = (false, eval a X.env) :: starEach [.Name xT p2] X.env := by rfl) (hs3 : starEach [.Name xT p2] X.env = (false, eval (.Name xT p2) X.env) :: starEach [] X.env := by rfl) (hpl : (backTo pos (starEach [.Name xT p2] X.env)).any (·.1) = false := by rfl) :
    DE D Wx X (.Call (.Name "isinstance" p) [a, .Name xT p2] [] pos) (eIsE cs bs ma) :=
  de_isE (c := .ref (He.ga X.K xT)) hK hg hm (pe_glob hgT hmT rfl hdT) (fun u r => r) hx.1 hx.2 ha hs2 hs3 hpl
theorem de_isT (hK : D.K = X.K) (hg : Gl X "isinstance") (hm : X.mg "isinstance" = none) (hgT : Gl X xT) (hmT : X.mg xT = none) (hvT : bootBuiltins xT = some (.type T)) (hnT : xT ≠ "__name__")
    (hx : (∀ d ∈ cs, ExcC X.K (He.ga X.K d) ∧ PySem.W.kitOne X.K (.ref (He.ga X.K d)) (.type T) = some (decide (d ∈ bs))) ∧ ∀ n ∈ isiKinds, PySem.W.kitOne X.K (.type n) (.type T) = some false)
    (ha : DE D Wx X a ma) (hdT : (xT == ("__debug__" : Str)) = false := by decide) (hs2 : starEach [a, .Name xT p2] X.env = (false, eval a X.env) :: starEach [.Name xT p2] X.env := by rfl) (hs3 : starEach [.Name xT p2] X.env = (false, eval (.Name xT p2) X.env) :: starEach [] X.env := by rfl) (hpl : (backTo pos (starEach [.Name xT p2] X.env)).any (·.1) = false := by rfl) :
    DE D Wx X (.Call (.Name "isinstance" p) [a, .Name xT p2] [] pos) (eIsE cs bs ma) :=
  de_isE (c := .ty T) hK hg hm (pe_bltn (v := .ty T) hgT hmT hvT rfl hnT hdT) (fun u r => r) hx.1 hx.2 ha hs2 hs3 hpl
end
end DL
namespace DL
open PySem PySem.Spec PyProof.Rows L2
open He (ba eqO eqO_ok)
section
variable {D : DC} {Wx : WX} {X : Cx} {k n : Nat} {ps : List Str} {F : FM} {x : Str} {p pos : Pos} {e : Expr} {es : List Expr} {l : LM}
/-- a def with repr that makes cells, from any def: it begins with none -/
theorem de_fnLG {T : List (Addr × Str)} (h : HasG X.prog X.w X.K X.mg X.base k x ps (callP X.K (true, T) F n)) (hgd : X.A.guards = some []) (hr : Room k X.A) (hg : Gl X x) (tk : L2.Takes X Wx) (ha : DA D Wx X (e :: es) l) (hK : D.K = X.K) (hT : D.sx.2 = T) (hn : LQt n l)
    (hdb : (x == ("__debug__" : Str)) = false := by decide) (he : starEach (e :: es) X.env = (false, eval e X.env) :: starEach es X.env := by rfl) (hpl : (backTo pos (starEach es X.env)).any (·.1) = false := by rfl) :
    DE D Wx X (.Call (.Name x p) (e :: es) [] pos) (eCallL F l) := by
  obtain ⟨fd, hk, hb, hm, FO⟩ := h
  exact PE.mono (pe_callG (E := WE Wx) FO hgd hr hg hm hk hb (fun σ => passAt tk σ) ha hdb he hpl) fun σ H Q h => hT ▸ callL_of hK (fun ws m m' e => hn ws m m' e) h
end
theorem fld_of {P : Program} {K : PySem.W.Frag} {mg : Str → Option Value} {xs : List ExD} {tf : List Str} (cx : SaysE P K mg xs tf) {cs : List Str} {f : Str} (h : (cs.all fun c => xs.any fun d => decide (d.name = c) && decide (d.fld = f)) = true) : ∀ c ∈ cs, XfC K (He.ga K c) ∧ PySem.W.findIn K (.ref (He.ga K c)) f = some none := fun c hc => by
  obtain ⟨d, hd, hz⟩ := List.any_eq_true.mp (List.all_eq_true.mp h c hc)
  rw [Bool.and_eq_true, decide_eq_true_eq, decide_eq_true_eq] at hz
  obtain ⟨rfl, rfl⟩ := hz
  obtain ⟨_, h2, h3⟩ := cx.ex d hd
  obtain ⟨k1, k2, _⟩ := exh_ok h2 h3
  exact ⟨k1, k2⟩
/-- a second field -/
theorem fld_of2 {P : Program} {K : PySem.W.Frag} {mg : Str → Option Value} {xs : List ExD} {tf : List Str} (cx : SaysE P K mg xs tf) {c f : Str} (h : (xs.any fun d => decide (d.name = c)) = true) (hf : PySem.W.findIn K (.ref (He.ga K c)) f = some none) : ∀ d ∈ [c], XfC K (He.ga K d) ∧ PySem.W.findIn K (.ref (He.ga K d)) f = some none := fun c' hc => by
  rw [List.mem_singleton.mp hc]
  obtain ⟨d, hd, hz⟩ := List.any_eq_true.mp h
  have hz := of_decide_eq_true hz
  subst hz
  obtain ⟨_, h2, h3⟩ := cx.ex d hd
  obtain ⟨k1, k2, _⟩ := exh_ok h2 h3
  exact ⟨k1, hf⟩
end DL
namespace DL
open PySem PySem.Spec PyProof.Rows L2
/-- what a range's iterator draws -/
theorem drawsR {prog : Program} {w : World} {A : Around} (hh : A.handled = none) (it : Addr) (a : Int) (n : Nat) :
    Draws prog w A it [it] n (fun i v => ∃ t, v = .int (a + (i : Nat)) t) (fun i h => IsRangeIter h it (a + (i : Nat)) ((n : Int) - (i : Nat)) 1) where
  live := fun _ _ st => ⟨_, st⟩
  frame := fun _ _ _ st hk => hk it (by simp) _ st
  item := fun i s Q E hi st hQ => by
    have hT : s.TypeIs (.ref it) "range_iterator" := ⟨_, st, rfl⟩
    unfold Builtin.SmallTypes.nextOf
    refine wpAny_bind (wpAny_callSpecial?_slot (name := Str.ofString "__next__") hT F.slot_range_iterator_next
      (call_meets F.slot_range_iterator_next hT F.entry_range_iterator_next (F.args_range_iterator_next_1 _) (AutoRange.range_iterator___next___range_iterator_1 it (a + (i : Nat)) ((n : Int) - (i : Nat)) 1 (by omega)) ⟨st, ?_⟩))
    refine wpAny_pure (hQ _ _ _ ⟨_, rfl⟩ ?_ ((Heap.SameBut.update ..).trans (Heap.SameBut.update ..)))
    have e1 : a + ((i + 1 : Nat) : Int) = a + (i : Nat) + 1 := by omega
    have e2 : (n : Int) - ((i + 1 : Nat) : Int) = (n : Int) - (i : Nat) - 1 := by omega
    show IsRangeIter _ it (a + ((i + 1 : Nat) : Int)) ((n : Int) - ((i + 1 : Nat) : Int)) 1
    rw [e1, e2]
    exact Heap.get?_update_self _ (Heap.get?_update_self _ st rfl) rfl
  done := fun s Q E st hE => by
    have hT : s.TypeIs (.ref it) "range_iterator" := ⟨_, st, rfl⟩
    have hleft : (n : Int) - (n : Nat) ≤ 0 := by omega
    unfold Builtin.SmallTypes.nextOf
    refine wpAny_bind (wpAny_callSpecial?_slot (name := Str.ofString "__next__") hT F.slot_range_iterator_next
      (wpAny_call_entry F.slot_range_iterator_next hT F.entry_range_iterator_next ?_ (F.args_range_iterator_next_1 _)))
    show wpAny _ _ (field (.ref it) 0 >>= _) _ _ s
    refine wpAny_bind (wpAny_field st rfl (x := rawInt (a + (n : Nat))) rfl ?_)
    show wpAny _ _ (field (.ref it) 1 >>= _) _ _ s
    refine wpAny_bind (wpAny_field st rfl (x := rawInt ((n : Int) - (n : Nat))) rfl ?_)
    show wpAny _ _ (field (.ref it) 2 >>= _) _ _ s
    refine wpAny_bind (wpAny_field st rfl (x := rawInt 1) rfl ?_)
    show wpAny _ _ (if (n : Int) - (n : Nat) ≤ 0 then _ else _) _ _ s
    rw [if_pos hleft]
    refine wpAny_bind (wpAny_rule ?_)
    refine wpAny_bind ?_
    show wpAny _ _ (newExc (.type "StopIteration") [] >>= _) _ _ _
    refine wpAny_bind ?_
    simp only [newExc, newTuple]
    refine wpAny_bind (wpAny_newObj_type ?_ (by size_fits))
    refine wpAny_bind (m := firstArgMember _ _) (wpAny_of_eq (a := Value.none) (by first | rfl | (simp only [firstArgMember]; rfl)) ?_)
    refine wpAny_newObj_type ?_ (by size_fits)
    simp only [raiseNew]
    refine wpAny_bind (wpAny_handled ?_)
    first | rw [show A.in1.handled = none from hh] | rw [hh]
    refine wpAny_bind (wpAny_pure (wpAny_throw ?_))
    exact hE _ _ (((Heap.ExtBut.refl it s.heap).push _).push _) ⟨_, Heap.get?_push_size _ rfl, rfl⟩
def isR (lo hi : Int) (r : Addr) (h : Heap) : Prop := ∃ t u v, IsRange h r lo hi 1 t u v
theorem begR (lo hi : Int) (r : Addr) (hs : Builtin.Range.small lo hi 1 = true) : Begins (.ref r) { cls := .type "range_iterator", data := .fields #[rawInt lo, rawInt (Builtin.Range.rangeSize lo hi 1), rawInt 1] } (isR lo hi r) where
  iter := fun prog w A E s Q ⟨t, u, v, hr⟩ h => wpAny_pyIter_range hr hs h
  keeps := fun h h' ⟨t, u, v, x⟩ hk => ⟨t, u, v, hk r _ x⟩
  free := rfl
def tRngO (ta : TA) : TE := fun σ H Q => ta σ H fun vs H1 => ∃ i j : Int, vs = [.int i, .int j] ∧ ∀ r o, H1 r = none → Q (.ref r) (upd H1 r (.frz o (.rng i j)))
theorem pe_rng2 {X : Cx} {a b : Expr} {ta : TA} {p pos : Pos} (hg : Gl X "range") (hm : X.mg "range" = none) (ha : PA X [a, b] ta) (hs : starEach [a, b] X.env = [(false, eval a X.env), (false, eval b X.env)] := by rfl) (hs2 : starEach [b] X.env = [(false, eval b X.env)] := by rfl) :
    PE X (.Call (.Name "range" p) [a, b] [] pos) (tRngO ta) := by
  refine ⟨fun pins s σ H Q I h => ?_⟩
  refine Call_ (ld_blt I hg hm boot_range (PyProof.Rows.callWith_type1 (thn (ha.run pos pins s σ H _ I h) fun us s1 ⟨vs, H1, I1, r1, q1⟩ => ?_) (by rw [hs, hs2]) (by rw [hs2]; rfl)))
  obtain ⟨i, j, e, q⟩ := q1
  subst e
  cases r1 with
  | cons r rr =>
    cases rr with
    | cons r' rr =>
      cases rr
      obtain ⟨t, rfl⟩ := r
      obtain ⟨t', rfl⟩ := r'
      refine call_range_2 ?_
      have hn : H1 s1.heap.objs.size = none := I1.hok.fresh (Nat.le_refl _)
      exact ⟨.ref s1.heap.objs.size, _, I1.laid (t' := s1.toks + 1) (o := .frz { cls := .type "range", data := .fields #[.int i t, .int j t', .int 1 s1.toks] } (.rng i j)) (fun b o e => Heap.get?_push_of_some _ e) (Nat.le_refl _) ⟨IsRange.new .., ⟨_, _, _, IsRange.new ..⟩⟩, rfl, q _ _ hn⟩
def PVzr (lo : Int) (us : List V) : Nat → V → V → Prop := fun i x y => x = .int (lo + (i : Nat)) ∧ us[i]? = some y
def ZrRec (lo : Int) (n : Nat) (k2 : Bool) (b z TI TO i1 i2 : Addr) (i : Nat) (h : Heap) : Prop :=
  IsZip h z TI TO .none ∧ IsTupOf2 h TI (.ref i1) (.ref i2) ∧ (∃ x y, IsTupOf2 h TO x y) ∧ IsRangeIter h i1 (lo + (i : Nat)) ((n : Int) - (i : Nat)) 1 ∧ iterK k2 h i2 b i
theorem turn_zr {P : Program} {w : World} {K : PySem.W.Frag} {elts : List Expr} {kk : Nat} {tpos : Pos} {us : List V} {lo : Int} {n : Nat} {k2 : Bool} {b z TI TO i1 i2 : Addr} (S : ZipSep2 z TI TO i1 i2 [i1] [i2, b]) (n2 : b ≠ i2) :
    Turn P w K (.Tuple elts kk tpos) (Itp (min n us.length) (fun H => SqK K H k2 b us) (PVzr lo us)) [z, TI, TO, i1, i2] z (ZrRec lo n k2 b z TI TO i1 i2) := by
  refine turn_pairs (I := z) (recs := [z, TI, TO, i1, i2]) (wr := [z, TO, i1, i2]) (fp := z :: TI :: TO :: ([i1] ++ [i2, b])) (ζ := List Value) (Sq := fun its h => isK k2 h b its.toArray) (Ok := fun its => Vals us its) (Pa := fun its i x y => (∃ t, x = .int (lo + (i : Nat)) t) ∧ its[i]? = some y)
    (by simp) (fun c hc => ?_) (fun i h st c hc => ?_) (fun i h h' st kp => ?_) (fun A its hh ok => ?_) (fun X pins σ H s i hP hw hK J hn st fz => ?_) (fun A i s Q E st q => wpAny_pyIter_zip st.1 q)
  · have e : c = z ∨ c = TO ∨ c = i1 ∨ c = i2 := by simpa using hc
    rcases e with rfl | rfl | rfl | rfl <;> simp
  · obtain ⟨hz, hTI, ⟨x, y, hTO⟩, h1, h2⟩ := st
    have e : c = z ∨ c = TI ∨ c = TO ∨ c = i1 ∨ c = i2 := by simpa using hc
    rcases e with rfl | rfl | rfl | rfl | rfl
    · exact ⟨_, hz, fun v q => nomatch q⟩
    · exact ⟨_, hTI, fun v q => nomatch q⟩
    · exact ⟨_, hTO, fun v q => nomatch q⟩
    · exact ⟨_, h1, fun v q => nomatch q⟩
    · exact iterK_obj h2
  · obtain ⟨hz, hTI, ⟨x, y, hTO⟩, h1, h2⟩ := st
    exact ⟨kp z (by simp) _ hz, kp TI (by simp) _ hTI, ⟨x, y, kp TO (by simp) _ hTO⟩, kp i1 (by simp) _ h1, iterK_at h2 fun o q => kp i2 (by simp) o q⟩
  · have W := GoesN.zip2 (elts := elts) (x1 := kk) (pos := tpos) (prog := P) (w := w) (A := A) S (drawsR (A := A.in1) hh i1 lo n) (drawsK (A := A.in1) hh k2 i2 b n2 its.toArray)
    refine GoesN.st (W.mono fun i h0 v h _ ⟨T, x, y, ev, hT, hx, hy, ht⟩ => ⟨T, x, y, ev, hT, ⟨hx, by simpa using hy⟩, ht⟩) (by rw [List.size_toArray, ← ok.length]) fun i h => ⟨fun ⟨a1, a2, a3, a4, a6, a7⟩ => ⟨⟨a1, a2, a3, a4, a6⟩, a7⟩, fun ⟨⟨a1, a2, a3, a4, a6⟩, a7⟩ => ⟨a1, a2, a3, a4, a6, a7⟩⟩
  · subst hP hw hK
    obtain ⟨its2, rv2, p2, _⟩ := seqK J fz
    have at_ : ∀ {xs : List V} {its : List Value} {i : Nat} {x : Value}, Vals xs its → its[i]? = some x → ∃ v, xs[i]? = some v ∧ L2.RelV v x := fun {xs its i x} rv hx => by
      have hi : i < xs.length := by
        rw [rv.length]
        rcases Nat.lt_or_ge i its.length with h | h
        · exact h
        · rw [List.getElem?_eq_none h] at hx; cases hx
      obtain ⟨u, hu, ru⟩ := rv.get (i := i) (x := xs[i]) (by simp [hi])
      rw [hu] at hx
      cases hx
      exact ⟨xs[i], by simp [hi], ru⟩
    refine ⟨its2, rv2, p2, fun i x y hp => ?_⟩
    obtain ⟨⟨t, rfl⟩, hy⟩ := hp
    obtain ⟨v2, e2, r2⟩ := at_ rv2 hy
    exact ⟨.int (lo + (i : Nat)), v2, ⟨t, rfl⟩, r2, rfl, e2⟩
theorem rngW_get {lo : Int} {n i : Nat} {w : W} (h : (rngW lo n)[i]? = some w) : w = .int (lo + (i : Nat)) := by
  unfold rngW at h
  rw [List.getElem?_map] at h
  obtain ⟨j, hj, rfl⟩ := Option.map_eq_some_iff.mp h
  have hlt : i < n := by
    rcases Nat.lt_or_ge i n with h | h
    · exact h
    · rw [List.getElem?_eq_none (by rw [List.length_range]; exact h)] at hj; cases hj
  rw [List.getElem?_range hlt] at hj
  cases hj
  rfl
theorem dwalk_zr {K : PySem.W.Frag} {ca : CA} {H : Hp} {k2 : Bool} {b : Addr} {us : List V} {lo : Int} {n : Nat} {ys : List W} (r2 : RpAll K ca H ys us) (f2 : ∀ H', Kp H H' → SqK K H' k2 b us) :
    DWalk true K (Itp (min n us.length) (fun H => SqK K H k2 b us) (PVzr lo us)) ca H (zpW (rngW lo n) ys) := by
  have hl : min n us.length = (zpW (rngW lo n) ys).length := by rw [zpW_length, r2.length]; unfold rngW; rw [List.length_map, List.length_range]
  refine ⟨fun i H' hi kp => ⟨by rw [hl]; exact hi, f2 H' kp⟩, fun H' kp => ⟨hl.symm, f2 H' kp⟩, fun i H' x H2 w kp e y => ?_⟩
  obtain ⟨T, x1, y1, rfl, nT, rfl, hx, hy⟩ := y
  obtain ⟨p, q, e1, e2, rfl⟩ := zpW_get _ ys i w e
  have ep := rngW_get e1
  subst ep
  subst hx
  have g := Same.upd_new (o := .tup [.int (lo + (i : Nat)), y1]) nT
  have x2 : Ext ca H ca (upd H' T (.tup [.int (lo + (i : Nat)), y1])) := ⟨kp.trans (.of_same g), List.prefix_refl ca⟩
  obtain ⟨u, d3, d4⟩ := (RpAll.mono x2 _ _ r2).get e2
  rw [hy] at d3
  cases d3
  exact ⟨g, _, _, _, rfl, rfl, upd_same, by simp only [RpAll]; exact ⟨_, _, rfl, rp_int, _, _, rfl, d4, rfl⟩⟩
/-- zip(range(a, b), c) -/
def iZpR (a b c : EM) : LM := fun m => (a m).bind fun x m => (b m).bind fun y m => match rngL2 [x, y] with
  | some xs => (c m).bind fun z m => match itemsOf z with
    | some ys => .ok (zpW xs ys) m
    | none => .bad
  | none => .bad
theorem di_zipR {D : DC} {Wx : WX} {X : Cx} {e0 e1 e2 : Expr} {m0 m1 m2 : EM} {p p3 pos pos3 tpos : Pos} {elts : List Expr} {kk : Nat} (hK : D.K = X.K) (hg : Gl X "zip") (hm : X.mg "zip" = none) (hg2 : Gl X "range") (hm2 : X.mg "range" = none) (h0 : DE D Wx X e0 m0) (h1 : DE D Wx X e1 m1) (h2 : DE D Wx X e2 m2)
    (hs0 : starEach [e0, e1] X.env = [(false, eval e0 X.env), (false, eval e1 X.env)] := by rfl) (hs1 : starEach [e1] X.env = [(false, eval e1 X.env)] := by rfl)
    (hs : starEach [.Call (.Name "range" p3) [e0, e1] [] pos3, e2] X.env = (false, eval (.Call (.Name "range" p3) [e0, e1] [] pos3) X.env) :: starEach [e2] X.env := by rfl) (hs2 : starEach [e2] X.env = (false, eval e2 X.env) :: starEach [] X.env := by rfl) (hpl : (backTo pos (starEach [e2] X.env)).any (·.1) = false := by rfl) :
    DI true D Wx X (.Tuple elts kk tpos) (.Call (.Name "zip" p) [.Call (.Name "range" p3) [e0, e1] [] pos3, e2] [] pos) (iZpR m0 m1 m2) := by
  refine ⟨fun pins s σ H R I h => ?_⟩
  obtain ⟨ca, ms, r, h⟩ := h
  have pr := pe_rng2 (pos := pos3) (p := p3) hg2 hm2 (pa_cons h0 (pa_cons h1 pa_nil (by rw [hs1]; rfl)) (by rw [hs0, hs1])) hs0 hs1
  have pa := pa_cons pr (pa_cons h2 pa_nil hs2) hs
  refine Call_ (ld_blt I hg hm PyProof.Rows.boot_zip (PyProof.Rows.callWith_type1 (thn (pa.run pos pins s σ H (fun vs H1 => ∃ k2 a b v2 ca1 lo n hi ys ms', vs = [.ref a, .ref b] ∧ (∃ o, H1 a = some (.frz o (.rng lo hi))) ∧ Builtin.Range.small lo hi 1 = true ∧ Builtin.Range.rangeSize lo hi 1 = (n : Nat) ∧ RpAll D.K ca1 H1 ys v2 ∧ (∀ H', Kp H1 H' → SqK X.K H' k2 b v2) ∧ Ext ca H ca1 H1 ∧ Rel D ca1 σ H1 ms' ∧ Po D Wx σ ca H (DL.R.ok (zpW (rngW lo n) ys) ms') (fun xs ms' => ∀ It ca' H', Ext ca H ca' H' → Rel D ca' σ H' ms' → DWalk true D.K It ca' H' xs → R It H')) I ?_) fun us s1 ⟨vs, H1, I1, r1, q1⟩ => ?_) hs hpl))
  · refine RdE.bind r h fun w v ms1 ca1 H1 x1 r1 p1 h1 => RdE.bind r1 (h1.ext x1) fun w2 v2 ms2 ca2 H2 x2 r2 p2 h2 => ?_
    cases er : rngL2 [w, w2] with
    | none => rw [er] at h2; exact h2.elim
    | some xs =>
      rw [er] at h2
      dsimp only at h2
      unfold rngL2 at er
      split at er
      · rename_i i j hij
        cases hij
        by_cases hj : (rngOk i && rngOk j) = true
        · rw [if_pos hj] at er
          cases er
          rw [Bool.and_eq_true] at hj
          have b1 := rngOk_ok hj.1
          have b2 := rngOk_ok hj.2
          refine ⟨i, j, by rw [p1.int, p2.int], fun rr ob hr => ?_⟩
          have g : Same H2 (upd H2 rr (.frz ob (.rng i j))) := Same.upd_new hr
          refine RdE.bind (r2.grow g) (h2.ext (x2.trans (.of_same g))) fun w3 v3 ms3 ca3 H3 x3 r3 p3 h3 => ?_
          cases ei : itemsOf w3 with
          | none => rw [ei] at h3; exact h3.elim
          | some ys =>
            rw [ei] at h3
            obtain ⟨k2, b, us, rfl, rb, f⟩ := sqK_of p3 ei
            refine ⟨k2, rr, b, us, ca3, i, (j - i).toNat, j, ys, ms3, rfl, ?_, small_one b1.1 b1.2 b2.1 b2.2, ?_, rb, by rw [← hK]; exact f, x1.trans (x2.trans ((Ext.of_same g).trans x3)), r3, h3⟩
            · exact ⟨ob, x3.1.frz _ _ _ upd_same⟩
            · rw [rangeSize_one]
              split <;> omega
        · rw [if_neg hj] at er; cases er
      · cases er
  · obtain ⟨k2, a, b, v2, ca1, lo, n, hi, ys, ms', rfl, ⟨ob, ea⟩, hsm, hn, rb, g, x1, rl, q⟩ := q1
    cases r1 with
    | cons r1 rr =>
      cases rr with
      | cons r2 rr =>
        cases rr
        cases r1
        cases r2
        obtain ⟨its2, rv2, p2', hz2⟩ := seqK I1 (g H1 (.refl _))
        have p1' : isR lo hi a s1.heap := by
          obtain ⟨_, t, u, v, hr⟩ := I1.hok a _ ea
          exact ⟨t, u, v, hr⟩
        have l1 : a < s1.heap.objs.size := by
          obtain ⟨t, u, v, hr⟩ := p1'
          exact Heap.lt_size hr
        have l2 := Inv.seen I1 p2'
        refine zip_begins2 (begR lo hi a hsm) (begK k2 b its2.toArray) p1' p2' fun h' hz hTI hTO h1 h2 hsz hk => wpAny_pyIter_zip hz ?_
        have I2 : Inv X pins σ H1 { s1 with heap := h' } := I1.kept (t' := s1.toks) hk
        have S := zip_sep2 (N := s1.heap.objs.size) (fp1 := []) (fp2 := [b]) (fun c hc => by cases hc) (fun c hc => by rw [List.mem_singleton.mp hc]; exact l2)
        refine ⟨s1.heap.objs.size + 4, [s1.heap.objs.size + 4, s1.heap.objs.size + 2, s1.heap.objs.size + 3, s1.heap.objs.size, s1.heap.objs.size + 1], _, _, H1, rfl, I2, turn_zr (us := v2) (lo := lo) (n := n) (k2 := k2) S (Nat.ne_of_lt (Nat.lt_succ_of_lt l2)), ⟨hz, hTI, ⟨_, _, hTO⟩, ?_, iterK_new h2⟩, fun c hc => ?_, ?_⟩
        · have e0 : lo + ((0 : Nat) : Int) = lo := by simp
          have e1 : ((n : Nat) : Int) - ((0 : Nat) : Int) = Builtin.Range.rangeSize lo hi 1 := by rw [hn]; simp
          show IsRangeIter h' s1.heap.objs.size (lo + ((0 : Nat) : Int)) (((n : Nat) : Int) - ((0 : Nat) : Int)) 1
          rw [e0, e1]
          exact h1
        · have hge : s1.heap.objs.size ≤ c := by
            have e' : c = s1.heap.objs.size + 4 ∨ c = s1.heap.objs.size + 2 ∨ c = s1.heap.objs.size + 3 ∨ c = s1.heap.objs.size ∨ c = s1.heap.objs.size + 1 := by simpa using hc
            rcases e' with rfl | rfl | rfl | rfl | rfl
            · exact Nat.le_add_right _ _
            · exact Nat.le_add_right _ _
            · exact Nat.le_add_right _ _
            · exact Nat.le_refl _
            · exact Nat.le_add_right _ _
          exact I1.fpOk hge (I1.hok.fresh hge)
        · have dw := dwalk_zr (lo := lo) (n := n) rb (by rw [hK]; exact g)
          rw [← hK]
          exact q _ ca1 H1 x1 rl dw
end DL
namespace DL
open PySem PySem.Spec PyProof.Rows L2
def dtE : Nat → W → Bool
  | _, .none => true
  | _, .bool _ => true
  | _, .int _ => true
  | _, .str _ => true
  | _, .dict [] => true
  | n + 1, .tuple xs => xs.all (dtE n)
  | n + 1, .list xs => xs.all (dtE n)
  | _, _ => false
def reprOkE (w : W) : Bool := dtE 60 w && (w.showable && (Nat.ble w.depth 60 && Nat.ble w.shown.length sizeLine))
def gReprE : List W → Option W
  | [w] => if reprOkE w = true then some (.str w.shown) else none
  | _ => none
def gReprF (ws : List W) : Option W := (gReprA ws).or (gReprE ws)
/-- the table of modules is a dict -/
def sysB (K : PySem.W.Frag) : Bool := match K.lookup sysModules with
  | some ⟨.type c, _, _, _⟩ => decide (c = "dict")
  | _ => false
theorem sys_ne {K : PySem.W.Frag} {h : Heap} {a : Addr} {o : Obj} (hs : sysB K = true) (KI : K.In h) (ho : h.get? a = some o) (hc : o.cls = .type "list") : a ≠ sysModules := fun z => by
  subst z
  unfold sysB at hs
  split at hs
  · rename_i c d dt sl q
    have e := KI _ _ q
    rw [ho] at e
    cases e
    have hc : Value.type c = .type "list" := hc
    rw [of_decide_eq_true hs] at hc
    exact absurd (Value.type.inj hc) (by decide)
  · cases hs
section
variable {X : Cx} {D : DC} {pins : List (Addr × Obj)} {σ : L2.St} {H : Hp} {s : Shared}
theorem readsE_all (I : Inv X pins σ H s) {ca : CA} {n : Nat} (ih : ∀ (w : W) (v : V) (u : Value), dtE n w = true → Rp X.K ca H w v → RelV v u → ∃ as, Reads s.heap u w as ∧ sysModules ∉ as) : ∀ (ws : List W) (vs : List V) (us : List Value), ws.all (dtE n) = true → RpAll X.K ca H ws vs → Vals vs us → ∃ as, ReadsAll s.heap us ws as ∧ sysModules ∉ as
  | [], vs, us, _, h, r => by
    simp only [RpAll] at h
    subst h
    cases r
    exact ⟨_, .nil, by simp⟩
  | x :: xs, vs, us, c, h, r => by
    simp only [RpAll] at h
    obtain ⟨v, t, rfl, h1, h2⟩ := h
    rw [List.all_cons, Bool.and_eq_true] at c
    cases r with
    | cons r1 r2 =>
      obtain ⟨as, a1, a2⟩ := ih x v _ c.1 h1 r1
      obtain ⟨bs, b1, b2⟩ := readsE_all I ih xs t _ c.2 h2 r2
      exact ⟨_, .cons a1 b1, fun z => (List.mem_append.mp z).elim a2 b2⟩
theorem readsE (hsy : sysB X.K = true) (I : Inv X pins σ H s) {ca : CA} : ∀ (n : Nat) (w : W) (v : V) (u : Value), dtE n w = true → Rp X.K ca H w v → RelV v u → ∃ as, Reads s.heap u w as ∧ sysModules ∉ as := by
  have dict0 : ∀ (v : V) (u : Value), Rp X.K ca H (.dict []) v → RelV v u → ∃ as, Reads s.heap u (.dict []) as ∧ sysModules ∉ as := fun v u p r => by
    obtain ⟨a, ps, rfl, ⟨o, f⟩, rk⟩ := p.fzd (by rfl)
    cases r
    have hps : ps = [] := by
      have := rk.length
      exact List.eq_nil_of_length_eq_zero this
    subst hps
    obtain ⟨_, lo, vs, kv, dd⟩ := dk_rd I.hok (.inr ⟨o, f⟩)
    obtain ⟨es, ep, ⟨ob, e1, e2, e3⟩, hsz, _⟩ := dd.raw
    have hvs : vs = [] := by cases kv; rfl
    subst hvs
    have hes : es.toList = [] := by
      apply List.eq_nil_of_length_eq_zero
      rw [Array.length_toList, hsz]
      rfl
    refine ⟨a :: [] ++ [], .dict e1 e2.1 e3 (by rw [hes]; exact .nil) (by rw [hes]; exact .nil), fun z => ?_⟩
    have z : sysModules ∈ [a] := by simpa using z
    rw [List.mem_singleton] at z
    rw [z] at lo
    simp at lo
  have flat : ∀ (w : W) (v : V) (u : Value), (w = .none ∨ (∃ b, w = .bool b) ∨ (∃ i, w = .int i) ∨ ∃ x, w = .str x) → Rp X.K ca H w v → RelV v u → ∃ as, Reads s.heap u w as ∧ sysModules ∉ as := fun w v u hw p r => by
    rcases hw with rfl | ⟨b, rfl⟩ | ⟨i, rfl⟩ | ⟨x, rfl⟩
    · rw [p.none] at r
      cases r
      exact ⟨_, .none, by simp⟩
    · rw [p.bool] at r
      cases r
      exact ⟨_, .bool b, by simp⟩
    · rw [p.int] at r
      obtain ⟨t, rfl⟩ := r
      exact ⟨_, .int i t, by simp⟩
    · rw [p.str] at r
      obtain ⟨t, rfl⟩ := r
      exact ⟨_, .str x t, by simp⟩
  intro n
  induction n with
  | zero =>
    intro w v u c p r
    cases w with
    | none => exact flat _ v u (.inl rfl) p r
    | bool b => exact flat _ v u (.inr (.inl ⟨b, rfl⟩)) p r
    | int i => exact flat _ v u (.inr (.inr (.inl ⟨i, rfl⟩))) p r
    | str x => exact flat _ v u (.inr (.inr (.inr ⟨x, rfl⟩))) p r
    | list xs => cases c
    | tuple xs => cases c
    | dict kvs =>
      cases kvs with
      | nil => exact dict0 v u p r
      | cons a b => cases c
  | succ n ih =>
    intro w v u c p r
    cases w with
    | none => exact flat _ v u (.inl rfl) p r
    | bool b => exact flat _ v u (.inr (.inl ⟨b, rfl⟩)) p r
    | int i => exact flat _ v u (.inr (.inr (.inl ⟨i, rfl⟩))) p r
    | str x => exact flat _ v u (.inr (.inr (.inr ⟨x, rfl⟩))) p r
    | list xs =>
      obtain ⟨a, vs, rfl, f, ra⟩ := p.lst
      cases r
      obtain ⟨its, rv, hl, _⟩ := I.list f.sq
      obtain ⟨o, ho, hc, k, hd⟩ := hl.isList
      obtain ⟨as, h1, h2⟩ := readsE_all I ih xs vs its c ra rv
      refine ⟨a :: as, .list ho hc hd h1, fun z => ?_⟩
      rcases List.mem_cons.mp z with z | z
      · exact sys_ne hsy I.kIn ho hc z.symm
      · exact h2 z
    | tuple xs =>
      obtain ⟨a, vs, rfl, f, ra⟩ := p.tup
      cases r
      obtain ⟨its, rv, ⟨o, ho, hc, k, hd⟩, _⟩ := I.tuple f.sq
      obtain ⟨as, h1, h2⟩ := readsE_all I ih xs vs its c ra rv
      exact ⟨as, .tuple ho hc hd h1, h2⟩
    | dict kvs =>
      cases kvs with
      | nil => exact dict0 v u p r
      | cons a b => cases c
theorem dc_reprE (hsy : sysB X.K = true) (hK : D.K = X.K) (hgd : X.A.guards = some []) (hu : X.A.units + 65 < cLine) : DCall D X (.builtin "repr") gReprE := fun pins s σ ca H xs us ws w Q I r p e q => by
  match ws, e, p with
  | [d], e, p =>
    have e : (if reprOkE d = true then some (PyData.str d.shown) else none) = some w := e
    by_cases hd : reprOkE d = true
    · rw [if_pos hd] at e
      cases e
      obtain ⟨c1, c2⟩ := He.ba hd
      obtain ⟨c2, c3⟩ := He.ba c2
      obtain ⟨c3, c4⟩ := He.ba c3
      have c3 := Nat.le_of_ble_eq_true c3
      have c4 := Nat.le_of_ble_eq_true c4
      obtain ⟨v, rfl, pv⟩ := p.inv1
      obtain ⟨u, rfl, rv⟩ := vals1 r
      rw [hK] at pv
      obtain ⟨as, rd, hsm⟩ := readsE hsy I 60 d v u c1 pv rv
      have fin : ∀ (h' : Heap) (tu : Tok) (tk : Nat), (∀ b o, s.heap.get? b = some o → h'.get? b = some o) → EP X pins σ Q (.str d.shown tu) { s with heap := h', toks := tk } := fun h' tu tk hk => ⟨.str d.shown, H, I.kept (t' := tk) hk, ⟨tu, rfl⟩, q _ H (fun _ _ h => h) rp_str⟩
      have ref : ∀ a : Addr, u = .ref a → wpAny (model X.prog X.w) X.A (call (.builtin "repr") [u]) (EP X pins σ Q) X.xe s := fun a e => by
        subst e
        exact repr_of_reads' rd c2 (fun _ => hsm) hgd (by omega) (fun _ _ h => h) (fun h' tu tk hk => fin h' tu tk hk) c4
      cases rd with
      | none => exact PySem.P.repr_of_none (fin s.heap _ _ fun _ _ h => h)
      | bool => exact PySem.P.repr_of_bool (fin s.heap _ _ fun _ _ h => h)
      | int => exact PySem.P.repr_of_int (of_decide_eq_true c2) (fin s.heap _ _ fun _ _ h => h)
      | str => exact PySem.P.repr_of_str (fin s.heap _ _ fun _ _ h => h) c4
      | _ => exact ref _ rfl
    · rw [if_neg hd] at e; cases e
theorem dc_reprF (hsy : sysB X.K = true) (hK : D.K = X.K) (hgd : X.A.guards = some []) (hu : X.A.units + 65 < cLine) : DCall D X (.builtin "repr") gReprF := (dc_reprA hK hgd hu).or (dc_reprE hsy hK hgd hu)
end
def isyB (cs : List Str) (qo : List (Str × List Str)) (qb : List (String × List Str)) (K : PySem.W.Frag) : Bool := isxB cs qo qb K && sysB K
theorem isy_1 {cs : List Str} {qo : List (Str × List Str)} {qb : List (String × List Str)} {K : PySem.W.Frag} (h : isyB cs qo qb K = true) : isxB cs qo qb K = true := (He.ba h).1
theorem isy_2 {cs : List Str} {qo : List (Str × List Str)} {qb : List (String × List Str)} {K : PySem.W.Frag} (h : isyB cs qo qb K = true) : sysB K = true := (He.ba h).2
end DL
namespace DL
open PySem PySem.Spec PyProof.Rows L2
theorem eVar_a (i : Nat) (m : MS) : eVar i m = (match m.env[i]? with
  | some (some (.fz w)) => .ok w m
  | _ => .bad) := rfl
theorem eC_a (w : W) (m : MS) : eC w m = (.ok w m) := rfl
theorem eBin_a (g : W → W → Option W) (a b : EM) (m : MS) : eBin g a b m = ((a m).bind fun x m => (b m).bind fun y m => opt (g x y) m) := rfl
theorem tAnd_a (a b : TM) (m : MS) : tAnd a b m = ((a m).bind fun x m => if x = true then b m else .ok false m) := rfl
theorem tOr_a (a b : TM) (m : MS) : tOr a b m = ((a m).bind fun x m => if x = true then .ok true m else b m) := rfl
theorem tNot_a (a : TM) (m : MS) : tNot a m = ((a m).bind fun x m => .ok (!x) m) := rfl
theorem eIf_a (t : TM) (a b : EM) (m : MS) : eIf t a b m = ((t m).bind fun x m => if x = true then a m else b m) := rfl
theorem aNil_a (m : MS) : aNil  m = (.ok [] m) := rfl
theorem aCons_a (a : EM) (r : LM) (m : MS) : aCons a r m = ((a m).bind fun x m => (r m).bind fun xs m => .ok (x :: xs) m) := rfl
theorem aStar_a (a : EM) (r : LM) (m : MS) : aStar a r m = ((a m).bind fun x m => match itemsOf x with
  | some ys => (r m).bind fun xs m => .ok (ys ++ xs) m
  | none => .bad) := rfl
theorem eTup_a (l : LM) (m : MS) : eTup l m = ((l m).bind fun ws m => if szOk ws.length = true then .ok (.tuple ws) m else .bad) := rfl
theorem fLst_a (l : LM) (m : MS) : fLst l m = ((l m).bind fun ws m => if szOk ws.length = true then .ok ws m else .bad) := rfl
theorem eFz_a (l : LM) (m : MS) : eFz l m = ((l m).bind fun ws m => .ok (.list ws) m) := rfl
theorem eOf_a (g : List W → Option W) (l : LM) (m : MS) : eOf g l m = ((l m).bind fun ws m => opt (g ws) m) := rfl
theorem fOf_a (g : List W → Option (List W)) (l : LM) (m : MS) : fOf g l m = ((l m).bind fun ws m => opt (g ws) m) := rfl
theorem oNone_a (m : MS) : oNone  m = (.ok none m) := rfl
theorem oSome_a (a : EM) (m : MS) : oSome a m = ((a m).bind fun x m => match x with
  | .int i => .ok (some i) m
  | _ => .bad) := rfl
theorem eIsi_a (T : String) (a : EM) (m : MS) : eIsi T a m = ((a m).bind fun x m => opt ((tyN x).map fun n => .bool (isiT n T)) m) := rfl
theorem fBin_a (g : W → W → Option (List W)) (a b : EM) (m : MS) : fBin g a b m = ((a m).bind fun x m => (b m).bind fun y m => opt (g x y) m) := rfl
theorem iR1_a (l : LM) (m : MS) : iR1 l m = ((l m).bind fun ws m => opt (rngL1 ws) m) := rfl
theorem iR2_a (l : LM) (m : MS) : iR2 l m = ((l m).bind fun ws m => opt (rngL2 ws) m) := rfl
theorem iEn_a (a : EM) (m : MS) : iEn a m = ((a m).bind fun x m => match itemsOf x with
  | some xs => .ok (enW 0 xs) m
  | none => .bad) := rfl
theorem iZp_a (a b : EM) (m : MS) : iZp a b m = ((a m).bind fun x m => (b m).bind fun y m => match itemsOf x, itemsOf y with
  | some xs, some ys => .ok (zpW xs ys) m
  | _, _ => .bad) := rfl
theorem fComp_a (it : LM) (g : GM) (t : TM) (el : EM) (own : List Nat) (m : MS) : fComp it g t el own m = ((it m).bind fun xs m => if ownFree m.env own = false then .bad else match compGo g t el (wipeE m.env own) xs m.cells with
  | some (ys, cs) => if szOk ys.length = true then .ok ys { m with cells := cs } else .bad
  | none => .bad) := rfl
theorem tYesM_a (m : MS) : tYesM  m = (.ok true m) := rfl
theorem vFz_a (a : EM) (m : MS) : vFz a m = ((a m).bind fun w m => .ok (.fz w) m) := rfl
theorem vOw_a (a : LM) (m : MS) : vOw a m = ((a m).bind fun w m => .ok (.ow w) m) := rfl
theorem vOd_a (a : KM) (m : MS) : vOd a m = ((a m).bind fun w m => .ok (.od w) m) := rfl
theorem vOn_a (a : KM) (m : MS) : vOn a m = ((a m).bind fun w m => .ok (.on w) m) := rfl
theorem sNext_a (m : MS) : sNext  m = (.ok .next m) := rfl
theorem sSeq_a (a b : SM) (m : MS) : sSeq a b m = ((a m).bind fun f m => match f with
  | .next => b m
  | .brk => .ok .brk m
  | .cont => .ok .cont m
  | .ret w => .ok (.ret w) m) := rfl
theorem sDrop_a (a : EM) (m : MS) : sDrop a m = ((a m).bind fun _ m => .ok .next m) := rfl
theorem sRet_a (a : EM) (m : MS) : sRet a m = ((a m).bind fun w m => .ok (.ret w) m) := rfl
theorem sIf_a (t : TM) (a b : SM) (m : MS) : sIf t a b m = ((t m).bind fun k m => if k = true then a m else b m) := rfl
theorem sAsg_a (a : EM) (g : GM) (m : MS) : sAsg a g m = ((a m).bind fun w m => match g w m with
  | .ok _ m => .ok .next m
  | _ => .bad) := rfl
theorem sSet_a (i : Nat) (a : VM) (m : MS) : sSet i a m = ((a m).bind fun x m => .ok .next { m with env := m.env.set i (some x) }) := rfl
theorem sFor_a (it : LM) (g : GM) (body : SM) (m : MS) : sFor it g body m = ((it m).bind fun xs m => forGo g body xs m) := rfl
theorem sWhile_a (fu : MS → Nat) (c : TM) (body : SM) (m : MS) : sWhile fu c body m = (whGo c body (fu m) m) := rfl
theorem eOwn_a (i : Nat) (l : LM) (g : List W → List W → Option (W × List W)) (m : MS) : eOwn i l g m = (match ownAt m.env i with
  | some (.ow _) => (l m).bind fun ws m => match ownAt m.env i with
    | some (.ow xs) => match g xs ws with
      | some (w, ys) => .ok w { m with env := m.env.set i (some (.ow ys)) }
      | none => .bad
    | _ => .bad
  | _ => .bad) := rfl
theorem eExtF_a (i : Nat) (l : LM) (m : MS) : eExtF i l m = (match ownAt m.env i with
  | some (.ow _) => (l m).bind fun ws m => match ownAt m.env i with
    | some (.ow xs) => if szOk (xs.length + ws.length) = true then .ok .none { m with env := m.env.set i (some (.ow (xs ++ ws))) } else .bad
    | _ => .bad
  | _ => .bad) := rfl
theorem eIxO_a (i : Nat) (a : EM) (m : MS) : eIxO i a m = (match ownAt m.env i with
  | some (.ow _) => (a m).bind fun k m => match ownAt m.env i with
    | some (.ow xs) => match k with
      | .int k => opt (atI xs k) m
      | _ => .bad
    | _ => .bad
  | _ => .bad) := rfl
theorem fComp2_a (it : LM) (g : GM) (t : TM) (it1 : LM) (g1 : GM) (t1 : TM) (el : EM) (vs1 own : List Nat) (m : MS) : fComp2 it g t it1 g1 t1 el vs1 own m = ((it m).bind fun xs m => if ownFree m.env own = false then .bad else match compGo2 g t it1 g1 t1 el vs1 (wipeE m.env own) xs m.cells with
  | some (ys, cs) => if szOk ys.length = true then .ok ys { m with cells := cs } else .bad
  | none => .bad) := rfl
theorem kNew_a (m : MS) : kNew  m = (.ok [] m) := rfl
theorem eFzD_a (l : KM) (m : MS) : eFzD l m = ((l m).bind fun ws m => .ok (.dict ws) m) := rfl
theorem kComp_a (it : LM) (g : GM) (t : TM) (ek el : EM) (own : List Nat) (m : MS) : kComp it g t ek el own m = ((it m).bind fun xs m => if ownFree m.env own = false then .bad else match kcompGo g t ek el (wipeE m.env own) xs [] m.cells with
  | some (ys, cs) => .ok ys { m with cells := cs }
  | none => .bad) := rfl
theorem kComp2_a (it : LM) (g : GM) (t : TM) (it1 : LM) (g1 : GM) (t1 : TM) (ek el : EM) (vs1 own : List Nat) (m : MS) : kComp2 it g t it1 g1 t1 ek el vs1 own m = ((it m).bind fun xs m => if ownFree m.env own = false then .bad else match kcompGo2 g t it1 g1 t1 ek el vs1 (wipeE m.env own) xs [] m.cells with
  | some (ys, cs) => .ok ys { m with cells := cs }
  | none => .bad) := rfl
theorem eUpdF_a (i : Nat) (l : KM) (m : MS) : eUpdF i l m = (match ownAt m.env i with
  | some (.od _) => (l m).bind fun ws m => match ownAt m.env i with
    | some (.od kvs) => if szOk (kvs.length + ws.length) = true then .ok .none { m with env := m.env.set i (some (.od (mergeW kvs ws))) } else .bad
    | _ => .bad
  | _ => .bad) := rfl
theorem iS_a (a : EM) (m : MS) : iS a m = ((a m).bind fun x m => opt (walkOf x) m) := rfl
theorem iVs_a (a : EM) (m : MS) : iVs a m = ((a m).bind fun x m => match x with
  | .dict kvs => if hndB kvs = true then .ok (kvs.map (·.2)) m else .bad
  | _ => .bad) := rfl
theorem iIt_a (a : EM) (m : MS) : iIt a m = ((a m).bind fun x m => match x with
  | .dict kvs => if hndB kvs = true then .ok (kvs.map fun kv => .tuple [kv.1, kv.2]) m else .bad
  | _ => .bad) := rfl
theorem eCut_a (a : EM) (lo hi : OM) (m : MS) : eCut a lo hi m = ((a m).bind fun x m => (lo m).bind fun l m => (hi m).bind fun u m => match x with
  | .tuple xs => .ok (.tuple (cutW xs l u)) m
  | .list xs => .ok (.list (cutW xs l u)) m
  | _ => .bad) := rfl
theorem eGet1_a (a b : EM) (m : MS) : eGet1 a b m = ((a m).bind fun d m => match d with
  | .dict kvs => if hndB kvs = true then (b m).bind fun k m => if (toKey k).isSome = true then .ok ((lookW kvs k).getD .none) m else .bad else .bad
  | _ => .bad) := rfl
theorem eGet2_a (a b c : EM) (m : MS) : eGet2 a b c m = ((a m).bind fun d m => match d with
  | .dict kvs => if hndB kvs = true then (b m).bind fun k m => (c m).bind fun z m => if (toKey k).isSome = true then .ok ((lookW kvs k).getD z) m else .bad else .bad
  | _ => .bad) := rfl
theorem eCAt_a (i : Nat) (m : MS) : eCAt i m = (match cellAt m i with
  | some (_, _, _, a, _) => .ok (.int a) m
  | none => .bad) := rfl
theorem eCLen_a (i : Nat) (m : MS) : eCLen i m = (match cellAt m i with
  | some (_, cs, _, _, _) => .ok (.int cs.length) m
  | none => .bad) := rfl
theorem eCCell_a (i : Nat) (a : EM) (m : MS) : eCCell i a m = (match cellAt m i with
  | some _ => (a m).bind fun k m => match cellAt m i with
    | some (_, cs, _, _, _) => match k with
      | .int k => match atI cs k with
        | some x => .ok (.int x) m
        | none => .bad
      | _ => .bad
    | none => .bad
  | none => .bad) := rfl
theorem eCLeft_a (i : Nat) (a : EM) (m : MS) : eCLeft i a m = (match cellAt m i with
  | some _ => (a m).bind fun k m => match cellAt m i with
    | some (_, _, ls, _, _) => match k with
      | .int k => match atI ls k with
        | some x => .ok (.int x) m
        | none => .bad
      | _ => .bad
    | none => .bad
  | none => .bad) := rfl
theorem sCAt_a (i : Nat) (a : EM) (m : MS) : sCAt i a m = ((a m).bind fun w m => match cellAt m i with
  | some (k, cs, ls, _, r) => match w with
    | .int x => .ok .next { m with cells := m.cells.set k (.draw cs ls x r) }
    | _ => .bad
  | none => .bad) := rfl
theorem sCLeft_a (i : Nat) (b a : EM) (m : MS) : sCLeft i b a m = ((a m).bind fun w m => match cellAt m i with
  | some _ => match b m with
    | .ok (.int t) m => match cellAt m i with
      | some (k, cs, ls, at_, r) => match w with
        | .int x => match ixN ls.length t with
          | some j => .ok .next { m with cells := m.cells.set k (.draw cs (ls.set j x) at_ r) }
          | none => .bad
        | _ => .bad
      | none => .bad
    | _ => .bad
  | none => .bad) := rfl
theorem fIf_a (t : TM) (a b : LM) (m : MS) : fIf t a b m = ((t m).bind fun x m => if x = true then a m else b m) := rfl
theorem eUn_a (g : W → Option W) (a : EM) (m : MS) : eUn g a m = ((a m).bind fun x m => opt (g x) m) := rfl
theorem sFrz_a (i : Nat) (m : MS) : sFrz i m = (match ownAt m.env i with
  | some x => .ok .next { m with env := m.env.set i (some (.fz (frW x))) }
  | none => .ok .next m) := rfl
theorem fRg1_a (a : EM) (m : MS) : fRg1 a m = ((a m).bind fun x m => match x with
  | .int j => if rgBd 0 j = true then .ok (rngW 0 j.toNat) m else .bad
  | _ => .bad) := rfl
theorem fRg2_a (a b : EM) (m : MS) : fRg2 a b m = ((a m).bind fun x m => (b m).bind fun y m => match x, y with
  | .int i, .int j => if rgBd i j = true then .ok (rngW i (j - i).toNat) m else .bad
  | _, _ => .bad) := rfl
theorem fSortN_a (i : Nat) (m : MS) : fSortN i m = (match ownN m.env i with
  | some kvs => if sortOk (keysW kvs) = true then .ok (sortW (keysW kvs)) m else .bad
  | none => .bad) := rfl
theorem kDict_a (l : LM) (m : MS) : kDict l m = ((l m).bind fun ws m => match ws with
  | [.list xs] => match pairsW xs with
    | some kvs => .ok (mergeW [] kvs) m
    | none => .bad
  | _ => .bad) := rfl
theorem kDictN_a (l : LM) (m : MS) : kDictN l m = ((l m).bind fun ws m => match ws with
  | [.list xs] => match pairsN xs with
    | some kvs => .ok (mergeN [] kvs) m
    | none => .bad
  | _ => .bad) := rfl
theorem eIdx_a (a b : EM) (m : MS) : eIdx a b m = ((a m).bind fun x m => match itemsOf x with
  | some ws => (b m).bind fun y m => opt (idxN ws y) m
  | none => .bad) := rfl
theorem eTr1_a (a : EM) (m : MS) : eTr1 a m = ((fRg1 a m).bind fun xs m => .ok (.tuple xs) m) := rfl
theorem eHold_a (i : Nat) (a : EM) (m : MS) : eHold i a m = (match ownAt m.env i with
  | some x => match a { m with env := m.env.set i (some (.fz (frW x))) } with
    | .ok w m' => if (lf w && heldOk m.env i m'.cells) = true then .ok w { m' with env := m.env } else .bad
    | _ => .bad
  | none => .bad) := rfl
theorem fHold_a (i : Nat) (a : LM) (m : MS) : fHold i a m = (match ownAt m.env i with
  | some x => match a { m with env := m.env.set i (some (.fz (frW x))) } with
    | .ok ws m' => if (lf.lfs ws && heldOk m.env i m'.cells) = true then .ok ws { m' with env := m.env } else .bad
    | _ => .bad
  | none => .bad) := rfl
theorem tHold_a (i : Nat) (a : TM) (m : MS) : tHold i a m = (match ownAt m.env i with
  | some x => match a { m with env := m.env.set i (some (.fz (frW x))) } with
    | .ok w m' => if heldOk m.env i m'.cells = true then .ok w { m' with env := m.env } else .bad
    | _ => .bad
  | none => .bad) := rfl
theorem sPar_a (is : List Nat) (l : List VM) (m : MS) : sPar is l m = ((evVs l m).bind fun xs m => .ok .next { m with env := putE is xs m.env }) := rfl
theorem sForN_a (i : Nat) (g : GM) (body : SM) (m : MS) : sForN i g body m = (match ownN m.env i with
  | some kvs => if noPin m.env i = true then (match forGo g body (keysW kvs) { m with env := m.env.set i (some (.pin i)) } with
    | .ok f m' => if (isPin m'.env i && noPin (m'.env.set i none) i) = true then .ok f { m' with env := m'.env.set i (some (.on kvs)) } else .bad
    | _ => .bad) else .bad
  | none => .bad) := rfl
theorem eTabGet_a (tab : List (Str × W)) (b : EM) (m : MS) : eTabGet tab b m = ((b m).bind fun k m => match k with
  | .str z => .ok ((tab.lookup z).getD .none) m
  | _ => .bad) := rfl
theorem setFz_a (i : Nat) (w : W) (m : MS) : setFz i w m = (.ok () { m with env := m.env.set i (some (.fz w)) }) := rfl
theorem gsNil_a (ws : List W) (m : MS) : gsNil  ws m = (match ws with
  | [] => .ok () m
  | _ => .bad) := rfl
theorem gsCons_a (g : GM) (r : GsM) (ws : List W) (m : MS) : gsCons g r ws m = (match ws with
  | w :: ws => (g w m).bind fun _ m => r ws m
  | [] => .bad) := rfl
theorem gSetI_a (i : Nat) (a : EM) (w : W) (m : MS) : gSetI i a w m = (match ownAt m.env i with
  | some (.ow _) => match a m with
    | .ok (.int k) m => match ownAt m.env i with
      | some (.ow xs) => match ixN xs.length k with
        | some j => .ok () { m with env := m.env.set i (some (.ow (xs.set j w))) }
        | none => .bad
      | _ => .bad
    | _ => .bad
  | _ => .bad) := rfl
theorem gSetD_a (i : Nat) (a : EM) (w : W) (m : MS) : gSetD i a w m = (match ownAt m.env i with
  | some (.od _) => match a m with
    | .ok k m => match ownAt m.env i with
      | some (.od kvs) => if ((toKey k).isSome && szOk (kvs.length + 1)) = true then .ok () { m with env := m.env.set i (some (.od (putW kvs k w))) } else .bad
      | _ => .bad
    | _ => .bad
  | _ => .bad) := rfl
theorem gSetN_a (i : Nat) (a : EM) (w : W) (m : MS) : gSetN i a w m = (match ownN m.env i with
  | some _ => match a m with
    | .ok k m => match ownN m.env i with
      | some kvs => if (nOk k && szOk (kvs.length + 1)) = true then .ok () { m with env := m.env.set i (some (.on (putN kvs k w))) } else .bad
      | none => .bad
    | _ => .bad
  | none => .bad) := rfl
def vb (x : W) (m : MS) : R Bool := match x with
  | .bool b => .ok b m
  | _ => .bad
def andK (x : W) (k : R W) (m : MS) : R W := match x with
  | .bool true => k
  | .bool false => .ok (.bool false) m
  | _ => .bad
def orK (x : W) (k : R W) (m : MS) : R W := match x with
  | .bool false => k
  | .bool true => .ok (.bool true) m
  | _ => .bad
def notK (x : W) (m : MS) : R W := match x with
  | .bool b => .ok (.bool (!b)) m
  | _ => .bad
def chn (o : Option W) (k : R W) (m : MS) : R W := match o with
  | some (.bool true) => k
  | some (.bool false) => .ok (.bool false) m
  | _ => .bad
theorem vb_b (b : Bool) (m : MS) : vb (.bool b) m = .ok b m := rfl
theorem andK_b (b : Bool) (k : R W) (m : MS) : andK (.bool b) k m = if b = true then k else .ok (.bool false) m := by cases b <;> rfl
theorem orK_b (b : Bool) (k : R W) (m : MS) : orK (.bool b) k m = if b = true then .ok (.bool true) m else k := by cases b <;> rfl
theorem notK_b (b : Bool) (m : MS) : notK (.bool b) m = .ok (.bool (!b)) m := rfl
theorem chn_b (b : Bool) (k : R W) (m : MS) : chn (some (.bool b)) k m = if b = true then k else .ok (.bool false) m := by cases b <;> rfl
theorem tVal_a (a : EM) (m : MS) : tVal a m = (a m).bind vb := rfl
theorem eAnd_a (a b : EM) (m : MS) : eAnd a b m = (a m).bind fun x m => andK x (b m) m := rfl
theorem eOr_a (a b : EM) (m : MS) : eOr a b m = (a m).bind fun x m => orK x (b m) m := rfl
theorem eNot_a (a : EM) (m : MS) : eNot a m = (a m).bind notK := rfl
theorem eChain_a (g g' : W → W → Option W) (a b c : EM) (m : MS) : eChain g g' a b c m = (a m).bind fun x m => (b m).bind fun y m => chn (g x y) ((c m).bind fun z m => opt (g' y z) m) m := rfl
theorem ite_andW (p q : Bool) (m : MS) : (if p = true then R.ok (PyData.bool q) m else .ok (.bool false) m) = .ok (.bool (p && q)) m := by cases p <;> rfl
theorem ite_orW (p q : Bool) (m : MS) : (if p = true then R.ok (PyData.bool true) m else .ok (.bool q) m) = .ok (.bool (p || q)) m := by cases p <;> rfl
theorem ite_andT (p q : Bool) (m : MS) : (if p = true then R.ok q m else .ok false m) = .ok (p && q) m := by cases p <;> rfl
theorem ite_orT (p q : Bool) (m : MS) : (if p = true then R.ok true m else .ok q m) = .ok (p || q) m := by cases p <;> rfl
theorem bind_ok {α β : Type} (a : α) (m : MS) (f : α → MS → R β) : (R.ok a m).bind f = f a m := rfl
theorem opt_some {α : Type} (a : α) (m : MS) : opt (some a) m = R.ok a m := rfl
theorem eCallF_a (F : FM) (l : LM) (m : MS) : eCall false F [] l m = ((l m).bind fun ws m => match F ws [] with
  | .ok w _ => .ok w m
  | .err c fs _ => .err c fs m
  | .bad => .bad) := by
  unfold eCall
  cases l m with
  | ok ws m1 =>
    rw [bind_ok, bind_ok, List.append_nil]
    show (match F ws [] with
      | .ok w m' => R.ok w { m1 with cells := m1.cells }
      | .err c fs m' => .err c fs { m1 with cells := m1.cells }
      | .bad => .bad) = _
    cases F ws [] <;> rfl
  | err c fs m => rfl
  | bad => rfl
theorem eCallT_a (F : FM) (l : LM) (m : MS) : eCall true F [] l m = ((l m).bind fun ws m => match F ws m.cells with
  | .ok w m' => .ok w ⟨m.env, m'.cells⟩
  | .err c fs m' => .err c fs ⟨m.env, m'.cells⟩
  | .bad => .bad) := by
  unfold eCall
  cases l m with
  | ok ws m1 =>
    rw [bind_ok, bind_ok, List.append_nil]
    show (match F ws m1.cells with
      | .ok w m' => R.ok w { m1 with cells := m'.cells }
      | .err c fs m' => .err c fs { m1 with cells := m'.cells }
      | .bad => .bad) = _
    cases F ws m1.cells <;> rfl
  | err c fs m => rfl
  | bad => rfl
theorem isi_tt : isiT "tuple" "tuple" = true := by decide +kernel
theorem isi_ii : isiT "int" "int" = true := by decide +kernel
theorem isi_ib : isiT "int" "bool" = false := by decide +kernel
theorem tyN_tup (xs : List W) : tyN (.tuple xs) = some "tuple" := rfl
theorem tyN_int (i : Int) : tyN (.int i) = some "int" := rfl
theorem io_l (xs : List W) : itemsOf (.list xs) = some xs := rfl
theorem io_t (xs : List W) : itemsOf (.tuple xs) = some xs := rfl
theorem wo_l (xs : List W) : walkOf (.list xs) = some xs := rfl
theorem wo_t (xs : List W) : walkOf (.tuple xs) = some xs := rfl
theorem gLen_tup (xs : List W) : gLen [.tuple xs] = some (.int xs.length) := rfl
theorem gLen_lst (xs : List W) : gLen [.list xs] = some (.int xs.length) := rfl
theorem gTuple_lst (xs : List W) : gTuple [.list xs] = some (.tuple xs) := rfl
theorem gTuple_tup (xs : List W) : gTuple [.tuple xs] = some (.tuple xs) := rfl
theorem szOk_0 : szOk 0 = true := rfl
theorem szOk_1 : szOk 1 = true := rfl
theorem szOk_2 : szOk 2 = true := rfl
theorem szOk_3 : szOk 3 = true := rfl
theorem szOk_4 : szOk 4 = true := rfl
theorem tupW_t (g : GsM) (xs : List W) (m : MS) : gTupW g (.tuple xs) m = g xs m := rfl
end DL
namespace DL
open PySem PySem.Spec PyProof.Rows L2
def goodN : Nat → W → Bool
  | _, .none => true
  | _, .int _ => true
  | _, .str x => PyData.canLay0 (.str x)
  | n + 1, .tuple xs => xs.all (goodN n)
  | n + 1, .list xs => xs.all (goodN n)
  | _, _ => false
theorem canLayAll_of {xs : List W} (h : ∀ x ∈ xs, x.canLay0 = true) : PyData.canLayAll0 xs = true := by
  induction xs with
  | nil => rfl
  | cons y ys ih =>
    rw [PyData.canLayAll0, h y (by simp), ih fun x hx => h x (by simp [hx])]
    rfl
theorem depthAll_le {xs : List W} {n : Nat} (h : ∀ x ∈ xs, x.depth ≤ n) : PyData.depthAll xs ≤ n := by
  induction xs with
  | nil => exact Nat.zero_le _
  | cons y ys ih =>
    rw [PyData.depthAll]
    have h1 := h y (by simp)
    have h2 := ih fun x hx => h x (by simp [hx])
    omega
theorem good_lay : ∀ (n : Nat) (a : W), goodN n a = true → a.canLay0 = true ∧ a.depth ≤ n
  | n, .none, _ => ⟨rfl, Nat.zero_le _⟩
  | n, .int _, _ => ⟨rfl, Nat.zero_le _⟩
  | n, .str x, h => ⟨by cases n <;> exact h, Nat.zero_le _⟩
  | n + 1, .tuple xs, h => by
    have h : xs.all (goodN n) = true := h
    rw [List.all_eq_true] at h
    refine ⟨?_, ?_⟩
    · rw [PyData.canLay0]; exact canLayAll_of fun x hx => (good_lay n x (h x hx)).1
    · rw [PyData.depth]
      have := depthAll_le fun x hx => (good_lay n x (h x hx)).2
      omega
  | n + 1, .list xs, h => by
    have h : xs.all (goodN n) = true := h
    rw [List.all_eq_true] at h
    refine ⟨?_, ?_⟩
    · rw [PyData.canLay0]; exact canLayAll_of fun x hx => (good_lay n x (h x hx)).1
    · rw [PyData.depth]
      have := depthAll_le fun x hx => (good_lay n x (h x hx)).2
      omega
  | 0, .tuple xs, h => by cases h
  | 0, .list xs, h => by cases h
  | 0, .bool _, h => by cases h
  | _ + 1, .bool _, h => by cases h
  | 0, .dict _, h => by cases h
  | _ + 1, .dict _, h => by cases h
theorem eqv_good : ∀ (n : Nat) (a b : W), goodN n a = true → goodN n b = true → (PyData.eqv a b = true ↔ a = b) := by
  have all : ∀ n, (∀ a b : W, goodN n a = true → goodN n b = true → (PyData.eqv a b = true ↔ a = b)) → ∀ xs ys : List W, xs.all (goodN n) = true → ys.all (goodN n) = true → (PyData.eqvAll xs ys = true ↔ xs = ys) := fun n ih xs => by
    induction xs with
    | nil => intro ys _ _; cases ys <;> simp [PyData.eqvAll]
    | cons x xs ihx =>
      intro ys h1 h2
      cases ys with
      | nil => simp [PyData.eqvAll]
      | cons y ys =>
        rw [List.all_cons, Bool.and_eq_true] at h1 h2
        rw [PyData.eqvAll, Bool.and_eq_true, ih x y h1.1 h2.1, ihx ys h1.2 h2.2]
        simp
  intro n
  induction n with
  | zero =>
    intro a b ha hb
    cases a with
    | none => cases b with
      | none => simp [PyData.eqv]
      | int _ => simp [PyData.eqv]
      | str _ => simp [PyData.eqv]
      | _ => cases hb
    | int i => cases b with
      | none => simp [PyData.eqv]
      | int _ => simp [PyData.eqv]
      | str _ => simp [PyData.eqv]
      | _ => cases hb
    | str i => cases b with
      | none => simp [PyData.eqv]
      | int _ => simp [PyData.eqv]
      | str _ => simp [PyData.eqv]
      | _ => cases hb
    | _ => cases ha
  | succ n ih =>
    intro a b ha hb
    cases a with
    | none => cases b with
      | none => simp [PyData.eqv]
      | int _ => simp [PyData.eqv]
      | str _ => simp [PyData.eqv]
      | tuple _ => simp [PyData.eqv]
      | list _ => simp [PyData.eqv]
      | _ => cases hb
    | int i => cases b with
      | none => simp [PyData.eqv]
      | int _ => simp [PyData.eqv]
      | str _ => simp [PyData.eqv]
      | tuple _ => simp [PyData.eqv]
      | list _ => simp [PyData.eqv]
      | _ => cases hb
    | str i => cases b with
      | none => simp [PyData.eqv]
      | int _ => simp [PyData.eqv]
      | str _ => simp [PyData.eqv]
      | tuple _ => simp [PyData.eqv]
      | list _ => simp [PyData.eqv]
      | _ => cases hb
    | tuple xs => cases b with
      | none => simp [PyData.eqv]
      | int _ => simp [PyData.eqv]
      | str _ => simp [PyData.eqv]
      | list _ => simp [PyData.eqv]
      | tuple ys => rw [PyData.eqv, all n ih xs ys ha hb]; simp
      | _ => cases hb
    | list xs => cases b with
      | none => simp [PyData.eqv]
      | int _ => simp [PyData.eqv]
      | str _ => simp [PyData.eqv]
      | tuple ys => simp [PyData.eqv]
      | list ys => rw [PyData.eqv, all n ih xs ys ha hb]; simp
      | _ => cases hb
    | _ => cases ha
theorem gEq_good (n : Nat) {a b : W} {p : Prop} [Decidable p] (hn : n ≤ 60) (ha : goodN n a = true) (hb : goodN n b = true) (h : a = b ↔ p) : gEq a b = some (.bool (decide p)) := by
  obtain ⟨c1, d1⟩ := good_lay n a ha
  obtain ⟨c2, d2⟩ := good_lay n b hb
  have hs : shallow a b = true := by unfold shallow; rw [Nat.ble_eq_true_of_le (Nat.le_trans d1 hn)]; rfl
  have e := (eqv_good n a b ha hb).trans h
  have g : (if (a.canLay0 && b.canLay0 && shallow a b) = true then some (PyData.eqv a b) else none) = some (decide p) := by
    rw [c1, c2, hs, if_pos (by decide)]
    congr 1
    rw [Bool.eq_iff_iff, e]
    simp
  unfold gEq
  have key : eqW a b = some (decide p) := by
    cases a with
    | int i => cases b with
      | int j => show some (decide (i = j)) = _; congr 1; rw [decide_eq_decide, ← h]; simp
      | _ => exact g
    | str i => cases b with
      | str j => show some (decide (i = j)) = _; congr 1; rw [decide_eq_decide, ← h]; simp
      | _ => exact g
    | _ => exact g
  rw [key]
  rfl
theorem gNe_good (n : Nat) {a b : W} {p : Prop} [Decidable p] (hn : n ≤ 60) (ha : goodN n a = true) (hb : goodN n b = true) (h : a = b ↔ p) : gNe a b = some (.bool (!decide p)) := by
  have e := gEq_good n hn ha hb h
  unfold gEq at e
  obtain ⟨k, e1, e2⟩ := Option.map_eq_some_iff.mp e
  unfold gNe
  rw [e1]
  cases e2
  rfl
/-- x in xs -/
theorem gInA_seq (n : Nat) {x y : W} {xs : List W} (hn : n ≤ 60) (hy : itemsOf y = some xs) (hx : goodN n x = true) (hxs : xs.all (goodN n) = true) {p : Prop} [Decidable p] (h : x ∈ xs ↔ p) : gInA x y = some (.bool (decide p)) ∧ gNotInA x y = some (.bool (!decide p)) := by
  obtain ⟨c1, d1⟩ := good_lay n x hx
  have c2 : PyData.canLayAll0 xs = true := canLayAll_of fun z hz => (good_lay n z (List.all_eq_true.mp hxs z hz)).1
  have e : inSeq x y = some (decide p) := by
    unfold inSeq
    rw [hy]
    dsimp only
    rw [c1, c2, Nat.ble_eq_true_of_le (Nat.le_trans d1 hn), if_pos (by rfl)]
    congr 1
    rw [Bool.eq_iff_iff, List.any_eq_true, decide_eq_true_eq, ← h]
    constructor
    · rintro ⟨z, hz, e⟩
      exact ((eqv_good n z x (List.all_eq_true.mp hxs z hz) hx).mp e) ▸ hz
    · intro hz
      exact ⟨x, hz, (eqv_good n x x hx hx).mpr rfl⟩
  unfold gInA gNotInA gIn gNotIn inW
  rw [e]
  exact ⟨rfl, rfl⟩
def encL (xs : List Int) : W := .tuple (xs.map .int)
theorem encL_inj {xs ys : List Int} : encL xs = encL ys ↔ xs = ys := by
  unfold encL
  rw [PyData.tuple.injEq]
  exact List.map_inj_right fun a b e => by cases e; rfl
theorem int_inj (xs : List Int) (x : Int) : PyData.int x ∈ xs.map PyData.int ↔ x ∈ xs := by
  rw [List.mem_map]
  constructor
  · rintro ⟨y, hy, e⟩
    cases e
    exact hy
  · exact fun h => ⟨x, h, rfl⟩
theorem good_int (n : Nat) (i : Int) : goodN n (.int i) = true := by cases n <;> rfl
theorem good_ints (n : Nat) (xs : List Int) : (xs.map PyData.int).all (goodN n) = true := by
  rw [List.all_map, List.all_eq_true]
  exact fun x _ => good_int n x
theorem good_encL (n : Nat) (xs : List Int) : goodN (n + 1) (encL xs) = true := good_ints n xs
theorem gInA_L (x : Int) (xs : List Int) : gInA (.int x) (encL xs) = some (.bool (decide (x ∈ xs))) := (gInA_seq 1 (by decide) (xs := xs.map .int) rfl (good_int 1 x) (good_ints 1 xs) (int_inj xs x)).1
theorem gNotInA_L (x : Int) (xs : List Int) : gNotInA (.int x) (encL xs) = some (.bool (!decide (x ∈ xs))) := (gInA_seq 1 (by decide) (xs := xs.map .int) rfl (good_int 1 x) (good_ints 1 xs) (int_inj xs x)).2
theorem gEq_L (xs ys : List Int) : gEq (encL xs) (encL ys) = some (.bool (decide (xs = ys))) := gEq_good 1 (by decide) (good_encL 0 xs) (good_encL 0 ys) encL_inj
theorem gNe_L (xs ys : List Int) : gNe (encL xs) (encL ys) = some (.bool (!decide (xs = ys))) := gNe_good 1 (by decide) (good_encL 0 xs) (good_encL 0 ys) encL_inj
theorem gLe_int (a b : Int) : gLe (.int a) (.int b) = some (.bool (decide (a ≤ b))) := rfl
theorem gLt_int (a b : Int) : gLt (.int a) (.int b) = some (.bool (decide (a < b))) := rfl
theorem gGe_int (a b : Int) : gGe (.int a) (.int b) = some (.bool (decide (b ≤ a))) := rfl
theorem gGt_int (a b : Int) : gGt (.int a) (.int b) = some (.bool (decide (b < a))) := rfl
theorem gEq_int (a b : Int) : gEq (.int a) (.int b) = some (.bool (decide (a = b))) := rfl
theorem gNe_int (a b : Int) : gNe (.int a) (.int b) = some (.bool (!decide (a = b))) := rfl
theorem gPlus_int (a b : Int) : gPlus (.int a) (.int b) = some (.int (a + b)) := rfl
theorem gSub_int (a b : Int) : gSubI (.int a) (.int b) = some (.int (a - b)) := rfl
structure Fact where
  t : Int
  x : List Int
  y : List Int
  e : Int
deriving DecidableEq
structure Query where
  n : Int
  tabs : List (List Int)
  facts : List Fact
deriving DecidableEq
def encF (f : Fact) : W := .tuple [.int f.t, encL f.x, encL f.y, .int f.e]
def encT (ts : List (List Int)) : W := .tuple (ts.map encL)
def encFs (fs : List Fact) : W := .tuple (fs.map encF)
def encQ (q : Query) : W := .tuple [.int q.n, encT q.tabs, encFs q.facts]
def riseI (xs : List Int) : Bool := (xs.zip (xs.drop 1)).all fun p => decide (p.1 < p.2)
def lotB (n : Int) (xs : List Int) : Bool := (xs.all fun i => decide (0 ≤ i) && decide (i ≤ n - 1)) && riseI xs
section
open PySem.W
theorem lt_nil : dataLt (.tuple []) (.tuple []) = false := by rw [dataLt_tuple]; exact lex_irrefl (O := itemOrd) _
theorem lt_nil_cons (y : W) (ys : List W) : dataLt (.tuple []) (.tuple (y :: ys)) = true := by
  rw [dataLt_tuple, keyToksAll, keyToksAll]
  exact (lex_true (O := itemOrd)).mpr (.inl (by show decide ((0 : Int) < 1) = true; decide))
theorem lt_cons_nil (y : W) (ys : List W) : dataLt (.tuple (y :: ys)) (.tuple []) = false := by
  rw [dataLt_tuple, keyToksAll, keyToksAll]
  exact (lex_false (O := itemOrd)).mpr ⟨by show decide ((1 : Int) < 0) = false; decide, .inl (by show decide ((0 : Int) < 1) = true; decide)⟩
theorem lt_cons {x y : W} {xs ys : List W} (h : alike x y = true) : dataLt (.tuple (x :: xs)) (.tuple (y :: ys)) = if PyData.eqv x y = true then dataLt (.tuple xs) (.tuple ys) else dataLt x y := by
  rw [dataLt_tuple]
  cases e : PyData.eqv x y with
  | true => rw [if_pos rfl, dataLt_tuple]; exact dataLt_all_yes h e
  | false => rw [if_neg (by decide)]; exact dataLt_all_no h e
def ltL : List Int → List Int → Bool
  | _, [] => false
  | [], _ :: _ => true
  | x :: xs, y :: ys => if x = y then ltL xs ys else decide (x < y)
theorem ltL_ok : ∀ xs ys : List Int, dataLt (encL xs) (encL ys) = ltL xs ys
  | [], [] => lt_nil
  | _ :: _, [] => lt_cons_nil _ _
  | [], _ :: _ => lt_nil_cons _ _
  | x :: xs, y :: ys => by
    show dataLt (.tuple (.int x :: xs.map .int)) (.tuple (.int y :: ys.map .int)) = _
    rw [lt_cons (by simp [alike]), ltL]
    by_cases e : x = y
    · rw [if_pos e, if_pos (by simp [PyData.eqv, e])]
      exact ltL_ok xs ys
    · rw [if_neg e, if_neg (by simp [PyData.eqv, e]), dataLt_int]
theorem alikeAll_ints : ∀ xs ys : List Int, alikeAll (xs.map .int) (ys.map .int) = true
  | [], _ => by simp [alikeAll]
  | _ :: _, [] => by simp [alikeAll]
  | x :: xs, y :: ys => by simp [alikeAll, alike, alikeAll_ints xs ys]
theorem alike_L (xs ys : List Int) : alike (encL xs) (encL ys) = true := by
  unfold encL
  rw [alike]
  exact alikeAll_ints xs ys
theorem alike_F (f g : Fact) : alike (encF f) (encF g) = true := by
  have h1 := alike_L f.x g.x
  have h2 := alike_L f.y g.y
  simp [encF, alike, alikeAll, h1, h2]
theorem good_F (n : Nat) (f : Fact) : goodN (n + 2) (encF f) = true := by
  show ([PyData.int f.t, encL f.x, encL f.y, .int f.e].all (goodN (n + 1))) = true
  simp [good_int, good_encL]
def ltF (f g : Fact) : Bool := if f.t = g.t then (if f.x = g.x then (if f.y = g.y then decide (f.e < g.e) else ltL f.y g.y) else ltL f.x g.x) else decide (f.t < g.t)
theorem eqvL (xs ys : List Int) : PyData.eqv (encL xs) (encL ys) = decide (xs = ys) := by
  rw [Bool.eq_iff_iff, eqv_good 1 _ _ (good_encL 0 xs) (good_encL 0 ys), encL_inj]
  simp
theorem ltF_ok (f g : Fact) : dataLt (encF f) (encF g) = ltF f g := by
  unfold encF ltF
  rw [lt_cons (by simp [alike]), lt_cons (alike_L _ _), lt_cons (alike_L _ _), lt_cons (by simp [alike]), lt_nil, eqvL, eqvL, ltL_ok, ltL_ok, dataLt_int, dataLt_int]
  have e1 : PyData.eqv (.int f.t) (.int g.t) = decide (f.t = g.t) := by rw [PyData.eqv]; rfl
  have e2 : PyData.eqv (.int f.e) (.int g.e) = decide (f.e = g.e) := by rw [PyData.eqv]; rfl
  rw [e1, e2]
  by_cases h1 : f.t = g.t
  · by_cases h2 : f.x = g.x
    · by_cases h3 : f.y = g.y
      · by_cases h4 : f.e = g.e
        · simp [h1, h2, h3, h4]
        · simp [h1, h2, h3, h4]
      · simp [h1, h2, h3]
    · simp [h1, h2]
  · simp [h1]
theorem gLt_good (n : Nat) {a b : W} (hn : n ≤ 60) (ha : goodN n a = true) (hb : goodN n b = true) (h : alike a b = true) (hN : isNone a = false) : gLt a b = some (.bool (dataLt a b)) ∧ gGe a b = some (.bool (!dataLt a b)) ∧ gLe a b = some (.bool (!dataLt b a)) ∧ gGt a b = some (.bool (dataLt b a)) := by
  obtain ⟨c1, d1⟩ := good_lay n a ha
  obtain ⟨c2, d2⟩ := good_lay n b hb
  have hs : shallow a b = true := by unfold shallow; rw [Nat.ble_eq_true_of_le (Nat.le_trans d1 hn)]; rfl
  have hc : cmpOk a b = true := by unfold cmpOk; rw [h, hN, hs, c1, c2]; rfl
  have g : ∀ k : Bool, (if cmpOk a b = true then some (PyData.bool k) else none) = some (.bool k) := fun k => if_pos hc
  have g' : (if (alike a b && !isNone a && shallow a b && a.canLay0 && b.canLay0) = true then some (PyData.bool (dataLt a b)) else none) = some (.bool (dataLt a b)) := if_pos hc
  cases a with
  | int i => cases b with
    | int j =>
      rw [dataLt_int, dataLt_int]
      refine ⟨rfl, ?_, ?_, rfl⟩
      · show some (PyData.bool (decide (j ≤ i))) = _
        congr 2
        rw [Bool.eq_iff_iff]
        simp
      · show some (PyData.bool (decide (i ≤ j))) = _
        congr 2
        rw [Bool.eq_iff_iff]
        simp
    | _ => exact ⟨g', g _, g _, g _⟩
  | _ => exact ⟨g', g _, g _, g _⟩
theorem gLt_L (xs ys : List Int) : gLt (encL xs) (encL ys) = some (.bool (ltL xs ys)) := by
  rw [(gLt_good 1 (by decide) (good_encL 0 xs) (good_encL 0 ys) (alike_L xs ys) rfl).1, ltL_ok]
theorem gLt_F (f g : Fact) : gLt (encF f) (encF g) = some (.bool (ltF f g)) := by
  rw [(gLt_good 2 (by decide) (good_F 0 f) (good_F 0 g) (alike_F f g) rfl).1, ltF_ok]
theorem gGe_F (f g : Fact) : gGe (encF f) (encF g) = some (.bool (!ltF f g)) := by
  rw [(gLt_good 2 (by decide) (good_F 0 f) (good_F 0 g) (alike_F f g) rfl).2.1, ltF_ok]
end
def riseL (xs : List (List Int)) : Bool := (xs.zip (xs.drop 1)).all fun p => ltL p.1 p.2
def riseF (xs : List Fact) : Bool := (xs.zip (xs.drop 1)).all fun p => ltF p.1 p.2
def tabsB (n : Int) (ts : List (List Int)) : Bool := decide (1 ≤ ts.length) && decide (ts.length ≤ 8) && (ts.all fun l => lotB n l && !decide (l = [])) && riseL ts
def partB (xs ys : List Int) : Bool := xs.all fun x => decide (x ∈ ys)
def factB (n : Int) (ts : List (List Int)) (f : Fact) : Bool := (decide (0 ≤ f.t) && decide (f.t ≤ (ts.length : Int) - 1)) && lotB n f.x && lotB n f.y && (decide (0 ≤ f.e) && decide (f.e ≤ 60)) && (partB f.y (ts.getD f.t.toNat []) && (partB f.x f.y && !decide (f.x = f.y)))
def intR (n : Int) : List Int := (List.range n.toNat).map fun (i : Nat) => (i : Int)
def coverB (n : Int) (ts : List (List Int)) : Bool := (intR n).all fun c => ts.any fun l => decide (c ∈ l)
/-- a query -/
structure QOk (q : Query) : Prop where
  n1 : 1 ≤ q.n
  n7 : q.n ≤ 7
  tabs : tabsB q.n q.tabs = true
  cover : coverB q.n q.tabs = true
  many : q.facts.length ≤ 12
  facts : ∀ f ∈ q.facts, factB q.n q.tabs f = true
  rise : riseF q.facts = true
theorem mem_intR {n x : Int} : x ∈ intR n ↔ 0 ≤ x ∧ x < n := by
  unfold intR
  rw [List.mem_map]
  constructor
  · rintro ⟨i, hi, rfl⟩
    rw [List.mem_range] at hi
    omega
  · rintro ⟨h0, h1⟩
    exact ⟨x.toNat, List.mem_range.mpr (by omega), by omega⟩
theorem intR_length (n : Int) : (intR n).length = n.toNat := by simp [intR]
theorem fresh_le {n : Int} {xs : List Int} (h : lotB n xs = true) : ∀ x ∈ xs, 0 ≤ x ∧ x < n := fun x hx => by
  unfold lotB at h
  rw [Bool.and_eq_true, List.all_eq_true] at h
  have := h.1 x hx
  simp at this
  omega
theorem good_T (n : Nat) (ts : List (List Int)) : goodN (n + 2) (encT ts) = true := by
  show ((ts.map encL).all (goodN (n + 1))) = true
  rw [List.all_map, List.all_eq_true]
  exact fun x _ => good_encL n x
theorem good_Fs (n : Nat) (fs : List Fact) : goodN (n + 3) (encFs fs) = true := by
  show ((fs.map encF).all (goodN (n + 2))) = true
  rw [List.all_map, List.all_eq_true]
  exact fun x _ => good_F n x
theorem good_Q (n : Nat) (q : Query) : goodN (n + 4) (encQ q) = true := by
  show ([PyData.int q.n, encT q.tabs, encFs q.facts].all (goodN (n + 3))) = true
  have h1 := good_T (n + 1) q.tabs
  have h2 := good_Fs n q.facts
  simp [good_int, h1, h2]
theorem encF_inj {f g : Fact} : encF f = encF g ↔ f = g := by
  cases f; cases g
  simp [encF, encL_inj]
theorem encQ_inj {p q : Query} : encQ p = encQ q ↔ p = q := by
  cases p; cases q
  unfold encQ encT encFs
  simp only [PyData.tuple.injEq, List.cons.injEq, PyData.int.injEq, and_true, Query.mk.injEq]
  rw [List.map_inj_right fun a b e => encL_inj.mp e, List.map_inj_right fun a b e => encF_inj.mp e]
theorem gNe_Q (p q : Query) : gNe (encQ p) (encQ q) = some (.bool (!decide (p = q))) := gNe_good 4 (by decide) (good_Q 0 p) (good_Q 0 q) encQ_inj
theorem gEq_Q (p q : Query) : gEq (encQ p) (encQ q) = some (.bool (decide (p = q))) := gEq_good 4 (by decide) (good_Q 0 p) (good_Q 0 q) encQ_inj
def newI (f : Fact) : List Int := f.y.filter fun c => !decide (c ∈ f.x)
theorem ix_Q0 (q : Query) : ixW (encQ q) (.int 0) = some (.int q.n) := rfl
theorem ix_Q1 (q : Query) : ixW (encQ q) (.int 1) = some (encT q.tabs) := rfl
theorem ix_Q2 (q : Query) : ixW (encQ q) (.int 2) = some (encFs q.facts) := rfl
theorem ix_F0 (f : Fact) : ixW (encF f) (.int 0) = some (.int f.t) := rfl
theorem ix_F1 (f : Fact) : ixW (encF f) (.int 1) = some (encL f.x) := rfl
theorem ix_F2 (f : Fact) : ixW (encF f) (.int 2) = some (encL f.y) := rfl
theorem ix_F3 (f : Fact) : ixW (encF f) (.int 3) = some (.int f.e) := rfl
theorem tup_Q (q : Query) (g : GsM) (m : MS) : gTupW g (encQ q) m = g [.int q.n, encT q.tabs, encFs q.facts] m := rfl
theorem tup_F (f : Fact) (g : GsM) (m : MS) : gTupW g (encF f) m = g [.int f.t, encL f.x, encL f.y, .int f.e] m := rfl
theorem wo_L (xs : List Int) : walkOf (encL xs) = some (xs.map .int) := rfl
theorem wo_T (xs : List (List Int)) : walkOf (encT xs) = some (xs.map encL) := rfl
theorem wo_Fs (xs : List Fact) : walkOf (encFs xs) = some (xs.map encF) := rfl
theorem io_L (xs : List Int) : itemsOf (encL xs) = some (xs.map .int) := rfl
theorem io_T (xs : List (List Int)) : itemsOf (encT xs) = some (xs.map encL) := rfl
theorem io_Fs (xs : List Fact) : itemsOf (encFs xs) = some (xs.map encF) := rfl
theorem len_L (xs : List Int) : gLen [encL xs] = some (.int xs.length) := by show some (PyData.int ((xs.map PyData.int).length : Nat)) = _; rw [List.length_map]
theorem len_T (xs : List (List Int)) : gLen [encT xs] = some (.int xs.length) := by show some (PyData.int ((xs.map encL).length : Nat)) = _; rw [List.length_map]
theorem len_Fs (xs : List Fact) : gLen [encFs xs] = some (.int xs.length) := by show some (PyData.int ((xs.map encF).length : Nat)) = _; rw [List.length_map]
theorem len_Q (q : Query) : gLen [encQ q] = some (.int 3) := rfl
theorem len_F (q : Fact) : gLen [encF q] = some (.int 4) := rfl
theorem ty_L (xs : List Int) : tyN (encL xs) = some "tuple" := rfl
theorem ty_T (xs : List (List Int)) : tyN (encT xs) = some "tuple" := rfl
theorem ty_Fs (xs : List Fact) : tyN (encFs xs) = some "tuple" := rfl
theorem ty_Q (xs : Query) : tyN (encQ xs) = some "tuple" := rfl
theorem ty_F (xs : Fact) : tyN (encF xs) = some "tuple" := rfl
theorem tuple_L (xs : List Int) : gTuple [.list (xs.map .int)] = some (encL xs) := rfl
theorem tuple_T (xs : List (List Int)) : gTuple [.list (xs.map encL)] = some (encT xs) := rfl
theorem tuple_Fs (xs : List Fact) : gTuple [.list (xs.map encF)] = some (encFs xs) := rfl
theorem atI_map {α : Type} (enc : α → W) (as : List α) (i : Int) (d : α) (h0 : 0 ≤ i) (h1 : i < as.length) : L2.atI (as.map enc) i = some (enc (as.getD i.toNat d)) := by
  unfold L2.atI
  rw [List.length_map, ixN_ok h0 h1]
  show (as.map enc)[i.toNat]? = _
  have hl : i.toNat < as.length := by omega
  rw [List.getElem?_map, List.getElem?_eq_getElem hl, List.getD_eq_getElem?_getD, List.getElem?_eq_getElem hl]
  rfl
theorem ixW_l {xs : List W} {i : Int} {w : W} (h : L2.atI xs i = some w) : ixW (.list xs) (.int i) = some w := by
  unfold ixW
  rw [show atW (.list xs) (.int i) = L2.atI xs i from rfl, h]
  rfl
end DL
namespace DL
open PySem PySem.Spec PyProof.Rows L2
def insK (ks : List Int) (k : Int) : List Int := if k ∈ ks then ks else ks ++ [k]
def mrg (a b : List Int) : List Int := b.foldl insK a
theorem mem_insK {ks : List Int} {k x : Int} : x ∈ insK ks k ↔ x ∈ ks ∨ x = k := by
  unfold insK
  by_cases h : k ∈ ks
  · rw [if_pos h]
    exact ⟨.inl, fun e => e.elim id fun e => e ▸ h⟩
  · rw [if_neg h]; simp
theorem nodup_insK {ks : List Int} {k : Int} (h : ks.Nodup) : (insK ks k).Nodup := by
  unfold insK
  by_cases hk : k ∈ ks
  · rw [if_pos hk]; exact h
  · rw [if_neg hk]
    rw [List.nodup_append]
    exact ⟨h, by simp, fun a ha b hb => by
      have e : b = k := by simpa using hb
      subst e
      exact fun z => hk (z ▸ ha)⟩
theorem mem_mrg {x : Int} : ∀ {b a : List Int}, x ∈ mrg a b ↔ x ∈ a ∨ x ∈ b
  | [], a => by simp [mrg]
  | k :: b, a => by
    show x ∈ mrg (insK a k) b ↔ _
    rw [mem_mrg, mem_insK]
    simp [or_assoc]
theorem nodup_mrg : ∀ {b a : List Int}, a.Nodup → (mrg a b).Nodup
  | [], a, h => h
  | k :: b, a, h => nodup_mrg (b := b) (nodup_insK h)
theorem nodup_sub_len : ∀ {l m : List Int}, l.Nodup → (∀ x ∈ l, x ∈ m) → l.length ≤ m.length
  | [], _, _, _ => Nat.zero_le _
  | x :: l, m, h, hs => by
    rw [List.nodup_cons] at h
    have hx := hs x (by simp)
    have hl := List.length_erase_of_mem hx
    have hp : 0 < m.length := List.length_pos_of_mem hx
    have := nodup_sub_len (l := l) (m := m.erase x) h.2 fun y hy => by
      have hne : y ≠ x := fun z => h.1 (z ▸ hy)
      exact (List.mem_erase_of_ne hne).mpr (hs y (by simp [hy]))
    simp only [List.length_cons]
    omega
theorem nodup_len {n : Int} {l : List Int} (h : l.Nodup) (hb : ∀ x ∈ l, 0 ≤ x ∧ x < n) : l.length ≤ n.toNat := by
  rw [← intR_length n]
  exact nodup_sub_len h fun x hx => mem_intR.mpr (hb x hx)
def leadK (q : Query) (c : Int) : List Int := q.facts.foldl (fun acc f => if c ∈ f.x then mrg acc (mrg [] (newI f)) else acc) []
def leads (q : Query) (c : Int) : List Int := isortI (leadK q c)
theorem mem_leadF (c d : Int) : ∀ (fs : List Fact) (acc : List Int), d ∈ fs.foldl (fun acc f => if c ∈ f.x then mrg acc (mrg [] (newI f)) else acc) acc ↔ d ∈ acc ∨ ∃ f ∈ fs, c ∈ f.x ∧ d ∈ newI f
  | [], acc => by simp
  | f :: fs, acc => by
    rw [List.foldl_cons, mem_leadF c d fs]
    by_cases h : c ∈ f.x
    · rw [if_pos h, mem_mrg, mem_mrg]
      simp [h, or_assoc]
    · rw [if_neg h]
      simp [h]
theorem nodup_leadF (c : Int) : ∀ (fs : List Fact) (acc : List Int), acc.Nodup → (fs.foldl (fun acc f => if c ∈ f.x then mrg acc (mrg [] (newI f)) else acc) acc).Nodup
  | [], acc, h => h
  | f :: fs, acc, h => by
    rw [List.foldl_cons]
    refine nodup_leadF c fs _ ?_
    split
    · exact nodup_mrg h
    · exact h
theorem mem_leads {q : Query} {c d : Int} : d ∈ leads q c ↔ ∃ f ∈ q.facts, c ∈ f.x ∧ d ∈ newI f := by
  unfold leads leadK
  rw [(isortI_perm _).mem_iff, mem_leadF]
  simp
theorem nodup_leads (q : Query) (c : Int) : (leads q c).Nodup := (isortI_perm _).nodup_iff.mpr (nodup_leadF c q.facts [] List.nodup_nil)
theorem mem_newI {f : Fact} {d : Int} : d ∈ newI f ↔ d ∈ f.y ∧ d ∉ f.x := by
  unfold newI
  simp
/-- the columns of a query's facts -/
theorem QOk.fact_b {q : Query} (h : QOk q) {f : Fact} (hf : f ∈ q.facts) : lotB q.n f.x = true ∧ lotB q.n f.y = true ∧ 0 ≤ f.t ∧ f.t < q.tabs.length ∧ 0 ≤ f.e ∧ f.e ≤ 60 ∧ (∀ x ∈ f.y, x ∈ q.tabs.getD f.t.toNat []) ∧ (∀ x ∈ f.x, x ∈ f.y) ∧ f.x ≠ f.y := by
  have := h.facts f hf
  unfold factB partB at this
  simp only [Bool.and_eq_true, decide_eq_true_eq, List.all_eq_true, Bool.not_eq_true', decide_eq_false_iff_not] at this
  obtain ⟨⟨⟨⟨⟨a, b⟩, c⟩, d⟩, e, f'⟩, g, i, j⟩ := this
  exact ⟨c, d, a, by omega, e, f', g, i, j⟩
theorem QOk.lead_b {q : Query} (h : QOk q) {c d : Int} (hd : d ∈ leads q c) : 0 ≤ d ∧ d < q.n := by
  obtain ⟨f, hf, _, hd⟩ := mem_leads.mp hd
  exact fresh_le (h.fact_b hf).2.1 d (mem_newI.mp hd).1
theorem QOk.leads_len {q : Query} (h : QOk q) (c : Int) : (leads q c).length ≤ 7 := by
  have := nodup_len (nodup_leads q c) fun x hx => h.lead_b hx
  have := h.n7
  omega
def lastI (r : List Int) : Int := r.getLastD 0
def stepR (q : Query) (r : List Int) : List (List Int) := ((leads q (lastI r)).filter fun d => !decide (d ∈ r)).map fun d => r ++ [d]
structure RowsOk (q : Query) (l : Nat) (rows : List (List Int)) : Prop where
  len : ∀ r ∈ rows, r.length = l
  nd : ∀ r ∈ rows, r.Nodup
  inn : ∀ r ∈ rows, ∀ x ∈ r, 0 ≤ x ∧ x < q.n
  many : rows.length ≤ 7 ^ l
theorem RowsOk.nil_of {q : Query} {l : Nat} {rows : List (List Int)} (h : RowsOk q l rows) (hq : QOk q) (hl : 8 ≤ l) : rows = [] := by
  cases rows with
  | nil => rfl
  | cons r rows =>
    have h1 := h.len r (by simp)
    have h2 := nodup_len (h.nd r (by simp)) (h.inn r (by simp))
    have := hq.n7
    omega
theorem flat_len {α β : Type} (f : α → List β) (k : Nat) : ∀ as : List α, (∀ a ∈ as, (f a).length ≤ k) → (as.flatMap f).length ≤ k * as.length
  | [], _ => by simp
  | a :: as, h => by
    have h1 := h a (by simp)
    have h2 := flat_len f k as fun b hb => h b (by simp [hb])
    rw [List.flatMap_cons, List.length_append, List.length_cons, Nat.mul_add]
    omega
theorem RowsOk.step {q : Query} {l : Nat} {rows : List (List Int)} (h : RowsOk q l rows) (hq : QOk q) : RowsOk q (l + 1) (rows.flatMap (stepR q)) := by
  refine ⟨fun r hr => ?_, fun r hr => ?_, fun r hr x hx => ?_, ?_⟩
  · obtain ⟨s, hs, hr⟩ := List.mem_flatMap.mp hr
    obtain ⟨d, _, rfl⟩ := List.mem_map.mp hr
    rw [List.length_append, h.len s hs]
    rfl
  · obtain ⟨s, hs, hr⟩ := List.mem_flatMap.mp hr
    obtain ⟨d, hd, rfl⟩ := List.mem_map.mp hr
    have hd2 : d ∉ s := by
      have := (List.mem_filter.mp hd).2
      simpa using this
    rw [List.nodup_append]
    exact ⟨h.nd s hs, by simp, fun a ha b hb => by
      have e : b = d := by simpa using hb
      subst e
      exact fun z => hd2 (z ▸ ha)⟩
  · obtain ⟨s, hs, hr⟩ := List.mem_flatMap.mp hr
    obtain ⟨d, hd, rfl⟩ := List.mem_map.mp hr
    rcases List.mem_append.mp hx with hx | hx
    · exact h.inn s hs x hx
    · obtain rfl : x = d := by simpa using hx
      exact hq.lead_b (List.mem_filter.mp hd).1
  · have := flat_len (stepR q) 7 rows fun r _ => by
      unfold stepR
      rw [List.length_map]
      exact Nat.le_trans (List.length_filter_le _ _) (hq.leads_len _)
    have h2 := h.many
    rw [Nat.pow_succ]
    omega
theorem RowsOk.small {q : Query} {l : Nat} {rows : List (List Int)} (h : RowsOk q l rows) (hq : QOk q) : rows.length ≤ 823543 := by
  by_cases hl : 8 ≤ l
  · rw [h.nil_of hq hl]; decide
  · have h1 := h.many
    have h2 : 7 ^ l ≤ 7 ^ 7 := Nat.pow_le_pow_right (by decide) (by omega)
    have h3 : 7 ^ 7 = 823543 := by decide
    omega
theorem nkeys_ints : ∀ xs : List Int, nkeys (xs.map .int) = some (xs.map NestedKey.num)
  | [] => rfl
  | x :: xs => by
    show (match nkey (.int x), nkeys (xs.map .int) with
      | some k, some ks => some (k :: ks)
      | _, _ => none) = _
    rw [nkeys_ints xs]
    rfl
structure NumsOk (q : Query) (nums : List Int) : Prop where
  lot : lotB q.tabs.length nums = true
  ne : nums ≠ []
theorem NumsOk.inn {q : Query} {nums : List Int} (h : NumsOk q nums) : ∀ k ∈ nums, 0 ≤ k ∧ k < q.tabs.length := fresh_le h.lot
end DL
namespace DL
open PySem PySem.Spec PyProof.Rows L2
def Ch (q : Query) : List Int → Prop
  | [] => True
  | [_] => True
  | a :: b :: r => b ∈ leads q a ∧ Ch q (b :: r)
theorem Ch.snoc {q : Query} {d : Int} : ∀ {r : List Int}, r ≠ [] → (Ch q (r ++ [d]) ↔ Ch q r ∧ d ∈ leads q (lastI r))
  | [], h => absurd rfl h
  | [a], _ => by simp [Ch, lastI]
  | a :: b :: r, _ => by
    show (b ∈ leads q a ∧ Ch q ((b :: r) ++ [d])) ↔ (b ∈ leads q a ∧ Ch q (b :: r)) ∧ d ∈ leads q (lastI (b :: r))
    rw [Ch.snoc (r := b :: r) (by simp)]
    rw [and_assoc]
theorem Ch.pre {q : Query} : ∀ {r s : List Int}, Ch q (r ++ s) → Ch q r
  | [], _, _ => trivial
  | [a], _, _ => trivial
  | a :: b :: r, s, h => ⟨h.1, Ch.pre (r := b :: r) (s := s) h.2⟩
/-- all simple rows are there, turn by turn -/
structure Simple (q : Query) (r : List Int) : Prop where
  ne : r ≠ []
  nd : r.Nodup
  inn : ∀ x ∈ r, 0 ≤ x ∧ x < q.n
  ch : Ch q r
theorem Simple.init {q : Query} {r : List Int} {d : Int} (h : Simple q (r ++ [d])) (hr : r ≠ []) : Simple q r ∧ d ∈ leads q (lastI r) ∧ d ∉ r := by
  obtain ⟨h1, h2⟩ := (Ch.snoc hr).mp h.ch
  have nd := h.nd
  rw [List.nodup_append] at nd
  exact ⟨⟨hr, nd.1, fun x hx => h.inn x (List.mem_append_left _ hx), h1⟩, h2, fun hd => nd.2.2 d hd d (by simp) rfl⟩
end DL
namespace DL
open PySem PySem.Spec PyProof.Rows L2
/-- a map that keeps the order of some ints -/
def Mono (ks : List Int) (f : Int → Int) : Prop := ∀ a ∈ ks, ∀ b ∈ ks, (a < b ↔ f a < f b)
theorem Mono.inj {ks : List Int} {f : Int → Int} (h : Mono ks f) {a b : Int} (ha : a ∈ ks) (hb : b ∈ ks) : f a = f b ↔ a = b := by
  have h1 := h a ha b hb
  have h2 := h b hb a ha
  constructor
  · intro e
    rw [e] at h1 h2
    have := Int.lt_irrefl (f b)
    simp only [this, iff_false] at h1 h2
    omega
  · intro e; rw [e]
end DL
namespace DL
open PySem PySem.Spec PyProof.Rows L2
class KeyE {α : Type} (enc : α → W) : Prop where
  key : ∀ a, ∃ k, nkey (enc a) = some k ∧ k.depth ≤ 8
  tup : ∀ a, ∃ xs, enc a = .tuple xs
  inj : ∀ a b, enc a = enc b → a = b
theorem depth_ints : ∀ xs : List Int, NestedKey.depthAll (xs.map NestedKey.num) = 0
  | [] => rfl
  | x :: xs => by rw [List.map_cons, NestedKey.depthAll, depth_ints xs]; rfl
theorem nkey_L (xs : List Int) : nkey (encL xs) = some (.tup (xs.map .num)) := by
  unfold encL
  rw [nkey, nkeys_ints]
  rfl
instance : KeyE encL where
  key xs := ⟨_, nkey_L xs, by rw [NestedKey.depth, depth_ints]; decide⟩
  tup xs := ⟨_, rfl⟩
  inj a b h := encL_inj.mp h
instance : KeyE encF where
  key f := by
    refine ⟨.tup [.num f.t, .tup (f.x.map .num), .tup (f.y.map .num), .num f.e], ?_, ?_⟩
    · unfold encF
      rw [nkey]
      simp only [nkeys, nkey_L]
      rfl
    · simp only [NestedKey.depth, NestedKey.depthAll, depth_ints]
      decide
  tup f := ⟨_, rfl⟩
  inj a b h := encF_inj.mp h
end DL
namespace G
open PySem PySem.Spec PyProof.Rows L2 DL
local macro_rules
  | `(tactic| trivial) => `(tactic| first | exact .inl rfl | exact .inr rfl | exact .inr (.inl rfl) | exact .inr (.inr rfl))
abbrev top (i : Nat) : Stmt := PySem.Challenge.pw_answerrooms_k37_errors_by_hand.main.body.getD i (.Pass ⟨0, 0, 0, 0⟩)
def d__law_begin : He.DefD := ⟨("_law_begin", none), "_law_begin", "_law_begin", defArgs (top 28), defBody (top 28), defScope (top 28), [], []⟩
def d__law_mixed : He.DefD := ⟨("_law_mixed", none), "_law_mixed", "_law_mixed", defArgs (top 27), defBody (top 27), defScope (top 27), [], []⟩
def d__law_draw : He.DefD := ⟨("_law_draw", none), "_law_draw", "_law_draw", defArgs (top 29), defBody (top 29), defScope (top 29), [], []⟩
def d__law_of : He.DefD := ⟨("_law_of", none), "_law_of", "_law_of", defArgs (top 30), defBody (top 30), defScope (top 30), [], []⟩
def d__law_field : He.DefD := ⟨("_law_field", none), "_law_field", "_law_field", defArgs (top 33), defBody (top 33), defScope (top 33), [], []⟩
def d__law_kinds_of : He.DefD := ⟨("_law_kinds_of", none), "_law_kinds_of", "_law_kinds_of", defArgs (top 31), defBody (top 31), defScope (top 31), [], []⟩
def d__law_marks : He.DefD := ⟨("_law_marks", none), "_law_marks", "_law_marks", defArgs (top 32), defBody (top 32), defScope (top 32), [], []⟩
def d__law_right : He.DefD := ⟨("_law_right", none), "_law_right", "_law_right", defArgs (top 34), defBody (top 34), defScope (top 34), [], []⟩
def d_law : He.DefD := ⟨("law", none), "law", "law", defArgs (top 35), defBody (top 35), defScope (top 35), [], []⟩
def fn : List He.DefD := [d__law_begin, d__law_mixed, d__law_draw, d__law_of, d__law_field, d__law_kinds_of, d__law_marks, d__law_right, d_law]
def fa : List He.Fa := [.glo "_law_begin", .free "list", .glo "_law_mixed", .free "int", .glo "_law_draw", .free "len", .glo "_law_of", .glo "_law_field", .glo "_law_kinds_of", .free "isinstance", .free "OverflowError", .free "ValueError", .glo "RoomError", .free "RuntimeError", .free "KeyError", .glo "_law_marks", .glo "BadDatabase", .glo "BadPaper", .glo "BadQuery", .glo "BadBase", .glo "BadTerm", .glo "Ringed", .glo "BadOther", .glo "BadLot", .glo "BadNumber", .glo "BadFact", .glo "BadName", .glo "BadColumn", .glo "BadFraction", .glo "BadOrder", .glo "BadGroup", .glo "BadTree", .glo "BadTurn", .glo "BadSort", .glo "BadText", .glo "BadBags", .glo "BadLeaving", .glo "NothingLeft", .glo "Missing", .glo "TooMany", .glo "_law_right", .free "enumerate", .free "repr", .free "range", .noat "BadText" "word", .free "zip", .glo "law", .free "min"]
def tf : List Str := []
abbrev xi_BadBags : Stmt := (clsBody (top 20)).getD 0 (.Pass ⟨0, 0, 0, 0⟩)
def xd_BadBags : ExD := ⟨"BadBags", "given", "BadBags.__init__", defArgs xi_BadBags, defBody xi_BadBags, defScope xi_BadBags, 0⟩
abbrev xi_BadBase : Stmt := (clsBody (top 6)).getD 0 (.Pass ⟨0, 0, 0, 0⟩)
def xd_BadBase : ExD := ⟨"BadBase", "given", "BadBase.__init__", defArgs xi_BadBase, defBody xi_BadBase, defScope xi_BadBase, 0⟩
abbrev xi_BadColumn : Stmt := (clsBody (top 10)).getD 0 (.Pass ⟨0, 0, 0, 0⟩)
def xd_BadColumn : ExD := ⟨"BadColumn", "given", "BadColumn.__init__", defArgs xi_BadColumn, defBody xi_BadColumn, defScope xi_BadColumn, 0⟩
abbrev xi_BadDatabase : Stmt := (clsBody (top 4)).getD 0 (.Pass ⟨0, 0, 0, 0⟩)
def xd_BadDatabase : ExD := ⟨"BadDatabase", "place", "BadDatabase.__init__", defArgs xi_BadDatabase, defBody xi_BadDatabase, defScope xi_BadDatabase, 0⟩
abbrev xi_BadFact : Stmt := (clsBody (top 12)).getD 0 (.Pass ⟨0, 0, 0, 0⟩)
def xd_BadFact : ExD := ⟨"BadFact", "given", "BadFact.__init__", defArgs xi_BadFact, defBody xi_BadFact, defScope xi_BadFact, 0⟩
abbrev xi_BadFraction : Stmt := (clsBody (top 15)).getD 0 (.Pass ⟨0, 0, 0, 0⟩)
def xd_BadFraction : ExD := ⟨"BadFraction", "given", "BadFraction.__init__", defArgs xi_BadFraction, defBody xi_BadFraction, defScope xi_BadFraction, 0⟩
abbrev xi_BadGroup : Stmt := (clsBody (top 13)).getD 0 (.Pass ⟨0, 0, 0, 0⟩)
def xd_BadGroup : ExD := ⟨"BadGroup", "given", "BadGroup.__init__", defArgs xi_BadGroup, defBody xi_BadGroup, defScope xi_BadGroup, 0⟩
abbrev xi_BadLeaving : Stmt := (clsBody (top 19)).getD 0 (.Pass ⟨0, 0, 0, 0⟩)
def xd_BadLeaving : ExD := ⟨"BadLeaving", "given", "BadLeaving.__init__", defArgs xi_BadLeaving, defBody xi_BadLeaving, defScope xi_BadLeaving, 0⟩
abbrev xi_BadLot : Stmt := (clsBody (top 8)).getD 0 (.Pass ⟨0, 0, 0, 0⟩)
def xd_BadLot : ExD := ⟨"BadLot", "given", "BadLot.__init__", defArgs xi_BadLot, defBody xi_BadLot, defScope xi_BadLot, 0⟩
abbrev xi_BadName : Stmt := (clsBody (top 11)).getD 0 (.Pass ⟨0, 0, 0, 0⟩)
def xd_BadName : ExD := ⟨"BadName", "given", "BadName.__init__", defArgs xi_BadName, defBody xi_BadName, defScope xi_BadName, 0⟩
abbrev xi_BadNumber : Stmt := (clsBody (top 7)).getD 0 (.Pass ⟨0, 0, 0, 0⟩)
def xd_BadNumber : ExD := ⟨"BadNumber", "given", "BadNumber.__init__", defArgs xi_BadNumber, defBody xi_BadNumber, defScope xi_BadNumber, 0⟩
abbrev xi_BadOrder : Stmt := (clsBody (top 14)).getD 0 (.Pass ⟨0, 0, 0, 0⟩)
def xd_BadOrder : ExD := ⟨"BadOrder", "given", "BadOrder.__init__", defArgs xi_BadOrder, defBody xi_BadOrder, defScope xi_BadOrder, 0⟩
abbrev xi_BadOther : Stmt := (clsBody (top 9)).getD 0 (.Pass ⟨0, 0, 0, 0⟩)
def xd_BadOther : ExD := ⟨"BadOther", "given", "BadOther.__init__", defArgs xi_BadOther, defBody xi_BadOther, defScope xi_BadOther, 0⟩
abbrev xi_BadPaper : Stmt := (clsBody (top 3)).getD 0 (.Pass ⟨0, 0, 0, 0⟩)
def xd_BadPaper : ExD := ⟨"BadPaper", "part", "BadPaper.__init__", defArgs xi_BadPaper, defBody xi_BadPaper, defScope xi_BadPaper, 0⟩
abbrev xi_BadQuery : Stmt := (clsBody (top 2)).getD 0 (.Pass ⟨0, 0, 0, 0⟩)
def xd_BadQuery : ExD := ⟨"BadQuery", "part", "BadQuery.__init__", defArgs xi_BadQuery, defBody xi_BadQuery, defScope xi_BadQuery, 0⟩
abbrev xi_BadSort : Stmt := (clsBody (top 16)).getD 0 (.Pass ⟨0, 0, 0, 0⟩)
def xd_BadSort : ExD := ⟨"BadSort", "given", "BadSort.__init__", defArgs xi_BadSort, defBody xi_BadSort, defScope xi_BadSort, 0⟩
abbrev xi_BadTerm : Stmt := (clsBody (top 21)).getD 0 (.Pass ⟨0, 0, 0, 0⟩)
def xd_BadTerm : ExD := ⟨"BadTerm", "path", "BadTerm.__init__", defArgs xi_BadTerm, defBody xi_BadTerm, defScope xi_BadTerm, 0⟩
abbrev xi_BadText : Stmt := (clsBody (top 22)).getD 0 (.Pass ⟨0, 0, 0, 0⟩)
def xd_BadText : ExD := ⟨"BadText", "line", "BadText.__init__", defArgs xi_BadText, defBody xi_BadText, defScope xi_BadText, 0⟩
abbrev xi_BadTree : Stmt := (clsBody (top 18)).getD 0 (.Pass ⟨0, 0, 0, 0⟩)
def xd_BadTree : ExD := ⟨"BadTree", "given", "BadTree.__init__", defArgs xi_BadTree, defBody xi_BadTree, defScope xi_BadTree, 0⟩
abbrev xi_BadTurn : Stmt := (clsBody (top 17)).getD 0 (.Pass ⟨0, 0, 0, 0⟩)
def xd_BadTurn : ExD := ⟨"BadTurn", "given", "BadTurn.__init__", defArgs xi_BadTurn, defBody xi_BadTurn, defScope xi_BadTurn, 0⟩
abbrev xi_Missing : Stmt := (clsBody (top 24)).getD 0 (.Pass ⟨0, 0, 0, 0⟩)
def xd_Missing : ExD := ⟨"Missing", "given", "Missing.__init__", defArgs xi_Missing, defBody xi_Missing, defScope xi_Missing, 3⟩
abbrev xi_NothingLeft : Stmt := (clsBody (top 25)).getD 0 (.Pass ⟨0, 0, 0, 0⟩)
def xd_NothingLeft : ExD := ⟨"NothingLeft", "many", "NothingLeft.__init__", defArgs xi_NothingLeft, defBody xi_NothingLeft, defScope xi_NothingLeft, 2⟩
abbrev xi_Ringed : Stmt := (clsBody (top 5)).getD 0 (.Pass ⟨0, 0, 0, 0⟩)
def xd_Ringed : ExD := ⟨"Ringed", "ring", "Ringed.__init__", defArgs xi_Ringed, defBody xi_Ringed, defScope xi_Ringed, 0⟩
abbrev xi_TooMany : Stmt := (clsBody (top 23)).getD 0 (.Pass ⟨0, 0, 0, 0⟩)
def xd_TooMany : ExD := ⟨"TooMany", "most", "TooMany.__init__", defArgs xi_TooMany, defBody xi_TooMany, defScope xi_TooMany, 1⟩
def xs : List ExD := [xd_BadBags, xd_BadBase, xd_BadColumn, xd_BadDatabase, xd_BadFact, xd_BadFraction, xd_BadGroup, xd_BadLeaving, xd_BadLot, xd_BadName, xd_BadNumber, xd_BadOrder, xd_BadOther, xd_BadPaper, xd_BadQuery, xd_BadSort, xd_BadTerm, xd_BadText, xd_BadTree, xd_BadTurn, xd_Missing, xd_NothingLeft, xd_Ringed, xd_TooMany]
abbrev xcs : List Str := ["BadBags", "BadBase", "BadColumn", "BadDatabase", "BadFact", "BadFraction", "BadGroup", "BadLeaving", "BadLot", "BadName", "BadNumber", "BadOrder", "BadOther", "BadPaper", "BadQuery", "BadSort", "BadTerm", "BadText", "BadTree", "BadTurn", "Missing", "NothingLeft", "Ringed", "TooMany"]
abbrev xqo : List (Str × List Str) := [("BadBags", ["BadBags"]), ("BadBase", ["BadBase"]), ("BadColumn", ["BadColumn"]), ("BadDatabase", ["BadDatabase"]), ("BadFact", ["BadFact"]), ("BadFraction", ["BadFraction"]), ("BadGroup", ["BadGroup"]), ("BadLeaving", ["BadLeaving"]), ("BadLot", ["BadLot"]), ("BadName", ["BadName"]), ("BadNumber", ["BadNumber"]), ("BadOrder", ["BadOrder"]), ("BadOther", ["BadOther"]), ("BadPaper", ["BadPaper"]), ("BadQuery", ["BadQuery"]), ("BadSort", ["BadSort"]), ("BadTerm", ["BadTerm"]), ("BadText", ["BadText"]), ("BadTree", ["BadTree"]), ("BadTurn", ["BadTurn"]), ("Missing", ["Missing"]), ("NothingLeft", ["NothingLeft"]), ("Ringed", ["Ringed"]), ("RoomError", ["BadBags", "BadBase", "BadColumn", "BadDatabase", "BadFact", "BadFraction", "BadGroup", "BadLeaving", "BadLot", "BadName", "BadNumber", "BadOrder", "BadOther", "BadPaper", "BadQuery", "BadSort", "BadTerm", "BadText", "BadTree", "BadTurn", "Ringed"]), ("TooMany", ["TooMany"])]
abbrev xqb : List (String × List Str) := [("KeyError", ["Missing"]), ("OverflowError", ["TooMany"]), ("RuntimeError", ["NothingLeft"]), ("ValueError", ["BadBags", "BadBase", "BadColumn", "BadDatabase", "BadFact", "BadFraction", "BadGroup", "BadLeaving", "BadLot", "BadName", "BadNumber", "BadOrder", "BadOther", "BadPaper", "BadQuery", "BadSort", "BadTerm", "BadText", "BadTree", "BadTurn", "Ringed"])]
theorem ext_BadBags {P : Program} {w : World} {K : PySem.W.Frag} {mg : Str → Option Value} {base h : Heap} (KX : K.In h) (G : h.Ns mainGlobals mg) (c : He.SaysD fa fn K) (cx : SaysE P K mg xs tf) : ExcF P w K mg base "BadBags" "given" := by
  obtain ⟨h1, h2, h3⟩ := cx.ex xd_BadBags (by simp [xs])
  exact excF_of (d := xd_BadBags) (arg := "given") (txt := "not bags that are wanted") (pl := fun f c cc L => L2.plainOf _ _) h1 h2 (He.glo_ok KX G (c.fact 35 (f := .glo "BadBags") rfl)) rfl (NdefX.nscope_by (by decide +kernel)) (by rfl) (by rfl) (by rfl) cx.sup (fun _ _ _ _ _ _ _ _ _ => rfl) (by decide) (by decide) (by decide) (fun f c cc L => by rfl)
theorem ext_BadBase {P : Program} {w : World} {K : PySem.W.Frag} {mg : Str → Option Value} {base h : Heap} (KX : K.In h) (G : h.Ns mainGlobals mg) (c : He.SaysD fa fn K) (cx : SaysE P K mg xs tf) : ExcF P w K mg base "BadBase" "given" := by
  obtain ⟨h1, h2, h3⟩ := cx.ex xd_BadBase (by simp [xs])
  exact excF_of (d := xd_BadBase) (arg := "given") (txt := "not a base") (pl := fun f c cc L => L2.plainOf _ _) h1 h2 (He.glo_ok KX G (c.fact 19 (f := .glo "BadBase") rfl)) rfl (NdefX.nscope_by (by decide +kernel)) (by rfl) (by rfl) (by rfl) cx.sup (fun _ _ _ _ _ _ _ _ _ => rfl) (by decide) (by decide) (by decide) (fun f c cc L => by rfl)
theorem ext_BadColumn {P : Program} {w : World} {K : PySem.W.Frag} {mg : Str → Option Value} {base h : Heap} (KX : K.In h) (G : h.Ns mainGlobals mg) (c : He.SaysD fa fn K) (cx : SaysE P K mg xs tf) : ExcF P w K mg base "BadColumn" "given" := by
  obtain ⟨h1, h2, h3⟩ := cx.ex xd_BadColumn (by simp [xs])
  exact excF_of (d := xd_BadColumn) (arg := "given") (txt := "not a column that is wanted") (pl := fun f c cc L => L2.plainOf _ _) h1 h2 (He.glo_ok KX G (c.fact 27 (f := .glo "BadColumn") rfl)) rfl (NdefX.nscope_by (by decide +kernel)) (by rfl) (by rfl) (by rfl) cx.sup (fun _ _ _ _ _ _ _ _ _ => rfl) (by decide) (by decide) (by decide) (fun f c cc L => by rfl)
theorem ext_BadDatabase {P : Program} {w : World} {K : PySem.W.Frag} {mg : Str → Option Value} {base h : Heap} (KX : K.In h) (G : h.Ns mainGlobals mg) (c : He.SaysD fa fn K) (cx : SaysE P K mg xs tf) : ExcF P w K mg base "BadDatabase" "place" := by
  obtain ⟨h1, h2, h3⟩ := cx.ex xd_BadDatabase (by simp [xs])
  exact excF_of (d := xd_BadDatabase) (arg := "place") (txt := "not a database of a query") (pl := fun f c cc L => L2.plainOf _ _) h1 h2 (He.glo_ok KX G (c.fact 16 (f := .glo "BadDatabase") rfl)) rfl (NdefX.nscope_by (by decide +kernel)) (by rfl) (by rfl) (by rfl) cx.sup (fun _ _ _ _ _ _ _ _ _ => rfl) (by decide) (by decide) (by decide) (fun f c cc L => by rfl)
theorem ext_BadFact {P : Program} {w : World} {K : PySem.W.Frag} {mg : Str → Option Value} {base h : Heap} (KX : K.In h) (G : h.Ns mainGlobals mg) (c : He.SaysD fa fn K) (cx : SaysE P K mg xs tf) : ExcF P w K mg base "BadFact" "given" := by
  obtain ⟨h1, h2, h3⟩ := cx.ex xd_BadFact (by simp [xs])
  exact excF_of (d := xd_BadFact) (arg := "given") (txt := "not a fact that is wanted") (pl := fun f c cc L => L2.plainOf _ _) h1 h2 (He.glo_ok KX G (c.fact 25 (f := .glo "BadFact") rfl)) rfl (NdefX.nscope_by (by decide +kernel)) (by rfl) (by rfl) (by rfl) cx.sup (fun _ _ _ _ _ _ _ _ _ => rfl) (by decide) (by decide) (by decide) (fun f c cc L => by rfl)
theorem ext_BadFraction {P : Program} {w : World} {K : PySem.W.Frag} {mg : Str → Option Value} {base h : Heap} (KX : K.In h) (G : h.Ns mainGlobals mg) (c : He.SaysD fa fn K) (cx : SaysE P K mg xs tf) : ExcF P w K mg base "BadFraction" "given" := by
  obtain ⟨h1, h2, h3⟩ := cx.ex xd_BadFraction (by simp [xs])
  exact excF_of (d := xd_BadFraction) (arg := "given") (txt := "not a fraction") (pl := fun f c cc L => L2.plainOf _ _) h1 h2 (He.glo_ok KX G (c.fact 28 (f := .glo "BadFraction") rfl)) rfl (NdefX.nscope_by (by decide +kernel)) (by rfl) (by rfl) (by rfl) cx.sup (fun _ _ _ _ _ _ _ _ _ => rfl) (by decide) (by decide) (by decide) (fun f c cc L => by rfl)
theorem ext_BadGroup {P : Program} {w : World} {K : PySem.W.Frag} {mg : Str → Option Value} {base h : Heap} (KX : K.In h) (G : h.Ns mainGlobals mg) (c : He.SaysD fa fn K) (cx : SaysE P K mg xs tf) : ExcF P w K mg base "BadGroup" "given" := by
  obtain ⟨h1, h2, h3⟩ := cx.ex xd_BadGroup (by simp [xs])
  exact excF_of (d := xd_BadGroup) (arg := "given") (txt := "not a group that is wanted") (pl := fun f c cc L => L2.plainOf _ _) h1 h2 (He.glo_ok KX G (c.fact 30 (f := .glo "BadGroup") rfl)) rfl (NdefX.nscope_by (by decide +kernel)) (by rfl) (by rfl) (by rfl) cx.sup (fun _ _ _ _ _ _ _ _ _ => rfl) (by decide) (by decide) (by decide) (fun f c cc L => by rfl)
theorem ext_BadLeaving {P : Program} {w : World} {K : PySem.W.Frag} {mg : Str → Option Value} {base h : Heap} (KX : K.In h) (G : h.Ns mainGlobals mg) (c : He.SaysD fa fn K) (cx : SaysE P K mg xs tf) : ExcF P w K mg base "BadLeaving" "given" := by
  obtain ⟨h1, h2, h3⟩ := cx.ex xd_BadLeaving (by simp [xs])
  exact excF_of (d := xd_BadLeaving) (arg := "given") (txt := "not a row of leaves that is wanted") (pl := fun f c cc L => L2.plainOf _ _) h1 h2 (He.glo_ok KX G (c.fact 36 (f := .glo "BadLeaving") rfl)) rfl (NdefX.nscope_by (by decide +kernel)) (by rfl) (by rfl) (by rfl) cx.sup (fun _ _ _ _ _ _ _ _ _ => rfl) (by decide) (by decide) (by decide) (fun f c cc L => by rfl)
theorem ext_BadLot {P : Program} {w : World} {K : PySem.W.Frag} {mg : Str → Option Value} {base h : Heap} (KX : K.In h) (G : h.Ns mainGlobals mg) (c : He.SaysD fa fn K) (cx : SaysE P K mg xs tf) : ExcF P w K mg base "BadLot" "given" := by
  obtain ⟨h1, h2, h3⟩ := cx.ex xd_BadLot (by simp [xs])
  exact excF_of (d := xd_BadLot) (arg := "given") (txt := "not a lot of columns") (pl := fun f c cc L => L2.plainOf _ _) h1 h2 (He.glo_ok KX G (c.fact 23 (f := .glo "BadLot") rfl)) rfl (NdefX.nscope_by (by decide +kernel)) (by rfl) (by rfl) (by rfl) cx.sup (fun _ _ _ _ _ _ _ _ _ => rfl) (by decide) (by decide) (by decide) (fun f c cc L => by rfl)
theorem ext_BadName {P : Program} {w : World} {K : PySem.W.Frag} {mg : Str → Option Value} {base h : Heap} (KX : K.In h) (G : h.Ns mainGlobals mg) (c : He.SaysD fa fn K) (cx : SaysE P K mg xs tf) : ExcF P w K mg base "BadName" "given" := by
  obtain ⟨h1, h2, h3⟩ := cx.ex xd_BadName (by simp [xs])
  exact excF_of (d := xd_BadName) (arg := "given") (txt := "not a name that is wanted") (pl := fun f c cc L => L2.plainOf _ _) h1 h2 (He.glo_ok KX G (c.fact 26 (f := .glo "BadName") rfl)) rfl (NdefX.nscope_by (by decide +kernel)) (by rfl) (by rfl) (by rfl) cx.sup (fun _ _ _ _ _ _ _ _ _ => rfl) (by decide) (by decide) (by decide) (fun f c cc L => by rfl)
theorem ext_BadNumber {P : Program} {w : World} {K : PySem.W.Frag} {mg : Str → Option Value} {base h : Heap} (KX : K.In h) (G : h.Ns mainGlobals mg) (c : He.SaysD fa fn K) (cx : SaysE P K mg xs tf) : ExcF P w K mg base "BadNumber" "given" := by
  obtain ⟨h1, h2, h3⟩ := cx.ex xd_BadNumber (by simp [xs])
  exact excF_of (d := xd_BadNumber) (arg := "given") (txt := "not a number that is wanted") (pl := fun f c cc L => L2.plainOf _ _) h1 h2 (He.glo_ok KX G (c.fact 24 (f := .glo "BadNumber") rfl)) rfl (NdefX.nscope_by (by decide +kernel)) (by rfl) (by rfl) (by rfl) cx.sup (fun _ _ _ _ _ _ _ _ _ => rfl) (by decide) (by decide) (by decide) (fun f c cc L => by rfl)
theorem ext_BadOrder {P : Program} {w : World} {K : PySem.W.Frag} {mg : Str → Option Value} {base h : Heap} (KX : K.In h) (G : h.Ns mainGlobals mg) (c : He.SaysD fa fn K) (cx : SaysE P K mg xs tf) : ExcF P w K mg base "BadOrder" "given" := by
  obtain ⟨h1, h2, h3⟩ := cx.ex xd_BadOrder (by simp [xs])
  exact excF_of (d := xd_BadOrder) (arg := "given") (txt := "not an order that is wanted") (pl := fun f c cc L => L2.plainOf _ _) h1 h2 (He.glo_ok KX G (c.fact 29 (f := .glo "BadOrder") rfl)) rfl (NdefX.nscope_by (by decide +kernel)) (by rfl) (by rfl) (by rfl) cx.sup (fun _ _ _ _ _ _ _ _ _ => rfl) (by decide) (by decide) (by decide) (fun f c cc L => by rfl)
theorem ext_BadOther {P : Program} {w : World} {K : PySem.W.Frag} {mg : Str → Option Value} {base h : Heap} (KX : K.In h) (G : h.Ns mainGlobals mg) (c : He.SaysD fa fn K) (cx : SaysE P K mg xs tf) : ExcF P w K mg base "BadOther" "given" := by
  obtain ⟨h1, h2, h3⟩ := cx.ex xd_BadOther (by simp [xs])
  exact excF_of (d := xd_BadOther) (arg := "given") (txt := "not another one of the kind that is wanted") (pl := fun f c cc L => L2.plainOf _ _) h1 h2 (He.glo_ok KX G (c.fact 22 (f := .glo "BadOther") rfl)) rfl (NdefX.nscope_by (by decide +kernel)) (by rfl) (by rfl) (by rfl) cx.sup (fun _ _ _ _ _ _ _ _ _ => rfl) (by decide) (by decide) (by decide) (fun f c cc L => by rfl)
theorem ext_BadPaper {P : Program} {w : World} {K : PySem.W.Frag} {mg : Str → Option Value} {base h : Heap} (KX : K.In h) (G : h.Ns mainGlobals mg) (c : He.SaysD fa fn K) (cx : SaysE P K mg xs tf) : ExcF P w K mg base "BadPaper" "part" := by
  obtain ⟨h1, h2, h3⟩ := cx.ex xd_BadPaper (by simp [xs])
  exact excF_of (d := xd_BadPaper) (arg := "part") (txt := "not a paper that holds") (pl := fun f c cc L => L2.plainOf _ _) h1 h2 (He.glo_ok KX G (c.fact 17 (f := .glo "BadPaper") rfl)) rfl (NdefX.nscope_by (by decide +kernel)) (by rfl) (by rfl) (by rfl) cx.sup (fun _ _ _ _ _ _ _ _ _ => rfl) (by decide) (by decide) (by decide) (fun f c cc L => by rfl)
theorem ext_BadQuery {P : Program} {w : World} {K : PySem.W.Frag} {mg : Str → Option Value} {base h : Heap} (KX : K.In h) (G : h.Ns mainGlobals mg) (c : He.SaysD fa fn K) (cx : SaysE P K mg xs tf) : ExcF P w K mg base "BadQuery" "part" := by
  obtain ⟨h1, h2, h3⟩ := cx.ex xd_BadQuery (by simp [xs])
  exact excF_of (d := xd_BadQuery) (arg := "part") (txt := "not a query") (pl := fun f c cc L => L2.plainOf _ _) h1 h2 (He.glo_ok KX G (c.fact 18 (f := .glo "BadQuery") rfl)) rfl (NdefX.nscope_by (by decide +kernel)) (by rfl) (by rfl) (by rfl) cx.sup (fun _ _ _ _ _ _ _ _ _ => rfl) (by decide) (by decide) (by decide) (fun f c cc L => by rfl)
theorem ext_BadSort {P : Program} {w : World} {K : PySem.W.Frag} {mg : Str → Option Value} {base h : Heap} (KX : K.In h) (G : h.Ns mainGlobals mg) (c : He.SaysD fa fn K) (cx : SaysE P K mg xs tf) : ExcF P w K mg base "BadSort" "given" := by
  obtain ⟨h1, h2, h3⟩ := cx.ex xd_BadSort (by simp [xs])
  exact excF_of (d := xd_BadSort) (arg := "given") (txt := "not a sort that is wanted") (pl := fun f c cc L => L2.plainOf _ _) h1 h2 (He.glo_ok KX G (c.fact 33 (f := .glo "BadSort") rfl)) rfl (NdefX.nscope_by (by decide +kernel)) (by rfl) (by rfl) (by rfl) cx.sup (fun _ _ _ _ _ _ _ _ _ => rfl) (by decide) (by decide) (by decide) (fun f c cc L => by rfl)
theorem ext_BadTerm {P : Program} {w : World} {K : PySem.W.Frag} {mg : Str → Option Value} {base h : Heap} (KX : K.In h) (G : h.Ns mainGlobals mg) (c : He.SaysD fa fn K) (cx : SaysE P K mg xs tf) : ExcF P w K mg base "BadTerm" "path" := by
  obtain ⟨h1, h2, h3⟩ := cx.ex xd_BadTerm (by simp [xs])
  exact excF_of (d := xd_BadTerm) (arg := "path") (txt := "not a term") (pl := fun f c cc L => L2.plainOf _ _) h1 h2 (He.glo_ok KX G (c.fact 20 (f := .glo "BadTerm") rfl)) rfl (NdefX.nscope_by (by decide +kernel)) (by rfl) (by rfl) (by rfl) cx.sup (fun _ _ _ _ _ _ _ _ _ => rfl) (by decide) (by decide) (by decide) (fun f c cc L => by rfl)
theorem ext_BadText {P : Program} {w : World} {K : PySem.W.Frag} {mg : Str → Option Value} {base h : Heap} (KX : K.In h) (G : h.Ns mainGlobals mg) (c : He.SaysD fa fn K) (cx : SaysE P K mg xs tf) : ExcF2 P w K mg base "BadText" "line" "word" := by
  obtain ⟨h1, h2, h3⟩ := cx.ex xd_BadText (by simp [xs])
  exact excF2_of (d := xd_BadText) (arg := "line") (arg2 := "word") (fld2 := "word") (txt := "not such a text") (pl := fun f c cc L => L2.plainOf _ _) h1 h2 (He.noat_ok (c.fact 44 (f := .noat "BadText" "word") rfl)) (He.glo_ok KX G (c.fact 34 (f := .glo "BadText") rfl)) rfl (NdefX.nscope_by (by decide +kernel)) (by rfl) (by rfl) (by rfl) cx.sup (fun _ _ _ _ _ _ _ _ _ _ => rfl) (by decide) (by decide) (by decide) (by decide) (by decide) (fun f c cc L => by rfl)
theorem ext_BadTree {P : Program} {w : World} {K : PySem.W.Frag} {mg : Str → Option Value} {base h : Heap} (KX : K.In h) (G : h.Ns mainGlobals mg) (c : He.SaysD fa fn K) (cx : SaysE P K mg xs tf) : ExcF P w K mg base "BadTree" "given" := by
  obtain ⟨h1, h2, h3⟩ := cx.ex xd_BadTree (by simp [xs])
  exact excF_of (d := xd_BadTree) (arg := "given") (txt := "not a tree that is wanted") (pl := fun f c cc L => L2.plainOf _ _) h1 h2 (He.glo_ok KX G (c.fact 31 (f := .glo "BadTree") rfl)) rfl (NdefX.nscope_by (by decide +kernel)) (by rfl) (by rfl) (by rfl) cx.sup (fun _ _ _ _ _ _ _ _ _ => rfl) (by decide) (by decide) (by decide) (fun f c cc L => by rfl)
theorem ext_BadTurn {P : Program} {w : World} {K : PySem.W.Frag} {mg : Str → Option Value} {base h : Heap} (KX : K.In h) (G : h.Ns mainGlobals mg) (c : He.SaysD fa fn K) (cx : SaysE P K mg xs tf) : ExcF P w K mg base "BadTurn" "given" := by
  obtain ⟨h1, h2, h3⟩ := cx.ex xd_BadTurn (by simp [xs])
  exact excF_of (d := xd_BadTurn) (arg := "given") (txt := "not a turn that is wanted") (pl := fun f c cc L => L2.plainOf _ _) h1 h2 (He.glo_ok KX G (c.fact 32 (f := .glo "BadTurn") rfl)) rfl (NdefX.nscope_by (by decide +kernel)) (by rfl) (by rfl) (by rfl) cx.sup (fun _ _ _ _ _ _ _ _ _ => rfl) (by decide) (by decide) (by decide) (fun f c cc L => by rfl)
theorem ext_Missing {P : Program} {w : World} {K : PySem.W.Frag} {mg : Str → Option Value} {base h : Heap} (KX : K.In h) (G : h.Ns mainGlobals mg) (c : He.SaysD fa fn K) (cx : SaysE P K mg xs tf) : ExcFG P w K mg base "Missing" "given" := by
  obtain ⟨h1, h2, h3⟩ := cx.ex xd_Missing (by simp [xs])
  exact excFG_of (d := xd_Missing) (arg := "given") (txt := "nothing by this name") (pl := fun f c cc L => L2.plainOf _ _) h1 h2 (He.glo_ok KX G (c.fact 38 (f := .glo "Missing") rfl)) rfl (NdefX.nscope_by (by decide +kernel)) (by rfl) (by rfl) (by rfl) cx.sup (fun _ _ _ _ _ _ _ _ _ => rfl) (by decide) (by decide) (by decide) (fun f c cc L => by rfl)
theorem ext_NothingLeft {P : Program} {w : World} {K : PySem.W.Frag} {mg : Str → Option Value} {base h : Heap} (KX : K.In h) (G : h.Ns mainGlobals mg) (c : He.SaysD fa fn K) (cx : SaysE P K mg xs tf) : ExcFG P w K mg base "NothingLeft" "many" := by
  obtain ⟨h1, h2, h3⟩ := cx.ex xd_NothingLeft (by simp [xs])
  exact excFG_of (d := xd_NothingLeft) (arg := "many") (txt := "nothing left") (pl := fun f c cc L => L2.plainOf _ _) h1 h2 (He.glo_ok KX G (c.fact 37 (f := .glo "NothingLeft") rfl)) rfl (NdefX.nscope_by (by decide +kernel)) (by rfl) (by rfl) (by rfl) cx.sup (fun _ _ _ _ _ _ _ _ _ => rfl) (by decide) (by decide) (by decide) (fun f c cc L => by rfl)
theorem ext_Ringed {P : Program} {w : World} {K : PySem.W.Frag} {mg : Str → Option Value} {base h : Heap} (KX : K.In h) (G : h.Ns mainGlobals mg) (c : He.SaysD fa fn K) (cx : SaysE P K mg xs tf) : ExcF P w K mg base "Ringed" "ring" := by
  obtain ⟨h1, h2, h3⟩ := cx.ex xd_Ringed (by simp [xs])
  exact excF_of (d := xd_Ringed) (arg := "ring") (txt := "a query with a ring") (pl := fun f c cc L => L2.plainOf _ _) h1 h2 (He.glo_ok KX G (c.fact 21 (f := .glo "Ringed") rfl)) rfl (NdefX.nscope_by (by decide +kernel)) (by rfl) (by rfl) (by rfl) cx.sup (fun _ _ _ _ _ _ _ _ _ => rfl) (by decide) (by decide) (by decide) (fun f c cc L => by rfl)
theorem ext_TooMany {P : Program} {w : World} {K : PySem.W.Frag} {mg : Str → Option Value} {base h : Heap} (KX : K.In h) (G : h.Ns mainGlobals mg) (c : He.SaysD fa fn K) (cx : SaysE P K mg xs tf) : ExcFG P w K mg base "TooMany" "most" := by
  obtain ⟨h1, h2, h3⟩ := cx.ex xd_TooMany (by simp [xs])
  exact excFG_of (d := xd_TooMany) (arg := "most") (txt := "too many") (pl := fun f c cc L => L2.plainOf _ _) h1 h2 (He.glo_ok KX G (c.fact 39 (f := .glo "TooMany") rfl)) rfl (NdefX.nscope_by (by decide +kernel)) (by rfl) (by rfl) (by rfl) cx.sup (fun _ _ _ _ _ _ _ _ _ => rfl) (by decide) (by decide) (by decide) (fun f c cc L => by rfl)
def B__law_begin : SM :=
 (sSeq (sSet 1 (vOw (fIf (tVal (eBin gNe (eVar 0) (eFz (fLst aNil)))) (fOf gListA (aCons (eVar 0) aNil)) (fLst (aCons (eC (.int 0)) aNil)))))
 (sSeq (sBegin 1 (fHold 1 (fComp (iS (eVar 1)) (setFz 2) tYesM (eIf (tVal (eBin gGe (eVar 2) (eBin gPow (eC (.int 10)) (eC (.int 18))))) (eVar 2) (eC (.int 0))) [2])))
 sNext))
def F__law_begin : FM := runB 3 B__law_begin
abbrev N__law_begin : List Str := ["_law_script", "_law_cells", "_law_cell"]
theorem sc__law_begin : FnScope N__law_begin ["_law_script"] (defScope (top 28)) := ⟨rfl, rfl, rfl, by decide +kernel, rfl, by decide +kernel, by decide +kernel⟩
theorem ok__law_begin {P : Program} {w : World} {K : PySem.W.Frag} {mg : Str → Option Value} {base h : Heap} (KX : K.In h) (G : h.Ns mainGlobals mg) (c : He.SaysD fa fn K) (htb : TBs K base mg tf) (cx : SaysE P K mg xs tf) (kx : isyB xcs xqo xqb K = true) : Has P w K mg base 1 "_law_begin" ["_law_script"] (callP K (true, (TTof K tf)) F__law_begin 1) := by
  have g_list := He.free_ok KX G (c.fact 1 (f := .free "list") rfl)
  have nd := sc__law_begin.nd
  obtain ⟨fd, Fd⟩ := c.def_ 0 (d := d__law_begin) rfl
  refine ⟨fd, Fd.kp, FunD.bindsN Fd (fun _ _ _ _ _ _ us hl => match us, hl with | [_], _ => rfl), He.glo_ok KX G (c.fact 0 (f := .glo "_law_begin") rfl), fn_ok Fd sc__law_begin fun cdv A outer s H E hr Wx tk D hK hst hT => ?_⟩
  replace hst : D.st = true := hst rfl
  have hu := DL.hu_of hr
  have hp : PassesOwn (model P w) (A.deeper (envOfC "_law_begin" (defScope (top 28)) s.heap.objs.size (He.ga K "_law_begin") cdv)) (envOfC "_law_begin" (defScope (top 28)) s.heap.objs.size (He.ga K "_law_begin") cdv) (cxOf (L2.CX P w) P w K mg base N__law_begin "_law_begin" (defScope (top 28)) (He.ga K "_law_begin") cdv A outer s H E).xe := passes_of (X := cxOf (L2.CX P w) P w K mg base N__law_begin "_law_begin" (defScope (top 28)) (He.ga K "_law_begin") cdv A outer s H E) rfl
  exact (dss_cons (ds_set (i := 1) nd rfl (by trivial) (dv_ow (df_if (dt_cmp (dop_ne hK (hu64 hu)) (de_var (i := 0) rfl (by trivial)) (de_fz (df_lst da_nil)) (nomark _)) (df_callTy (dc_listA hK rfl) rfl g_list bt_list (da_cons (de_var (i := 0) rfl (by trivial)) da_nil)) (df_lst (da_cons de_int da_nil)))))
 (dss_cons (ds_begin (i := 1) hst rfl (by trivial) (fun D hK hS => have hst : D.st = true := (congrArg Prod.fst hS).trans hst; (df_hold (i := 1) (df_comp (own := [("_law_cell", 2)]) hK rfl nd (di_seq hK (de_var (i := 1) rfl (by trivial))) (blkOk_by (by rfl)) (fun _ _ _ _ _ D hK hS => have hst : D.st = true := (congrArg Prod.fst hS).trans hst; (dg_name (i := 2) nd rfl (by trivial))) (fun _ _ _ _ _ D hK hS => have hst : D.st = true := (congrArg Prod.fst hS).trans hst; pts0) (fun _ _ _ _ _ D hK hS => have hst : D.st = true := (congrArg Prod.fst hS).trans hst; (de_if (dt_cmp (dop_ge hK (hu64 hu)) (de_var (i := 2) rfl (by trivial)) (de_op dop_pow de_int de_int) (nomark _)) (de_var (i := 2) rfl (by trivial)) de_int)) q_yes (q_if (q_val (q_bin q_var (q_bin q_c q_c))) q_var q_c) (by decide)) (q_comp (q_il q_var)))) hK)
 dss_nil))
def B__law_mixed : SM :=
 (sSeq (sSet 0 (vFz (eBin gModI (eOf gInt (aCons (eVar 0) aNil)) (eC (.int 2147483647)))))
 (sSeq (sRet (eBin gModI (eBin gTimes (eBin gModI (eBin gPlus (eBin gPlus (eBin gTimes (eVar 0) (eBin gPlus (eC (.int 48271)) (eBin gTimes (eBin gTimes (eC (.int 2)) (eVar 1)) (eVar 1)))) (eBin gTimes (eC (.int 69621)) (eVar 1))) (eC (.int 11))) (eC (.int 2147483647))) (eC (.int 69621))) (eC (.int 2147483629))))
 sNext))
def F__law_mixed : FM := runB 2 B__law_mixed
abbrev N__law_mixed : List Str := ["_law_cell", "_law_k"]
theorem sc__law_mixed : FnScope N__law_mixed ["_law_cell", "_law_k"] (defScope (top 27)) := ⟨rfl, rfl, rfl, by decide +kernel, rfl, by decide +kernel, by decide +kernel⟩
theorem ok__law_mixed {P : Program} {w : World} {K : PySem.W.Frag} {mg : Str → Option Value} {base h : Heap} (KX : K.In h) (G : h.Ns mainGlobals mg) (c : He.SaysD fa fn K) (htb : TBs K base mg tf) (cx : SaysE P K mg xs tf) (kx : isyB xcs xqo xqb K = true) : Has P w K mg base 1 "_law_mixed" ["_law_cell", "_law_k"] (callP K (false, (TTof K tf)) F__law_mixed 2) := by
  have g_int := He.free_ok KX G (c.fact 3 (f := .free "int") rfl)
  have nd := sc__law_mixed.nd
  obtain ⟨fd, Fd⟩ := c.def_ 1 (d := d__law_mixed) rfl
  refine ⟨fd, Fd.kp, FunD.bindsN Fd (fun _ _ _ _ _ _ us hl => match us, hl with | [_, _], _ => rfl), He.glo_ok KX G (c.fact 2 (f := .glo "_law_mixed") rfl), fn_ok Fd sc__law_mixed fun cdv A outer s H E hr Wx tk D hK hst hT => ?_⟩
  have hu := DL.hu_of hr
  have hp : PassesOwn (model P w) (A.deeper (envOfC "_law_mixed" (defScope (top 27)) s.heap.objs.size (He.ga K "_law_mixed") cdv)) (envOfC "_law_mixed" (defScope (top 27)) s.heap.objs.size (He.ga K "_law_mixed") cdv) (cxOf (L2.CX P w) P w K mg base N__law_mixed "_law_mixed" (defScope (top 27)) (He.ga K "_law_mixed") cdv A outer s H E).xe := passes_of (X := cxOf (L2.CX P w) P w K mg base N__law_mixed "_law_mixed" (defScope (top 27)) (He.ga K "_law_mixed") cdv A outer s H E) rfl
  exact (dss_cons (ds_set (i := 0) nd rfl (by trivial) (dv_fz (de_op dop_mod (de_callTy dc_int rfl g_int bt_int (da_cons (de_var (i := 0) rfl (by trivial)) da_nil)) de_int)))
 (dss_cons (ds_ret (de_op dop_mod (de_op (dop_times hK) (de_op dop_mod (de_op (dop_plus hK (dop_add hK)) (de_op (dop_plus hK (dop_add hK)) (de_op (dop_times hK) (de_var (i := 0) rfl (by trivial)) (de_op (dop_plus hK (dop_add hK)) de_int (de_op (dop_times hK) (de_op (dop_times hK) de_int (de_var (i := 1) rfl (by trivial))) (de_var (i := 1) rfl (by trivial))))) (de_op (dop_times hK) de_int (de_var (i := 1) rfl (by trivial)))) de_int) de_int) de_int) de_int))
 dss_nil))
def B__law_draw : SM :=
 (sSeq (sSet 2 (vFz (eCAt 0)))
 (sSeq (sCAt 0 (eBin gPlus (eVar 2) (eC (.int 1))))
 (sSeq (sSet 3 (vFz (eBin gModI (eOf gInt (aCons (eVar 2) aNil)) (eCLen 0))))
 (sSeq (sSet 4 (vFz (eCLeft 0 (eVar 3))))
 (sSeq (sIf (tVal (eBin gGt (eVar 4) (eC (.int 0))))
 (sSeq (sCLeft 0 (eVar 3) (eBin gDivI (eVar 4) (eVar 1)))
 (sSeq (sRet (eBin gModI (eOf gInt (aCons (eVar 4) aNil)) (eVar 1)))
 sNext))
 sNext)
 (sSeq (sSet 5 (vFz (eCall false F__law_mixed [] (aCons (eCall false F__law_mixed [] (aCons (eCCell 0 (eVar 3)) (aCons (eVar 2) aNil))) (aCons (eBin gPlus (eC (.int 40)) (eVar 2)) aNil)))))
 (sSeq (sRet (eBin gModI (eBin gDivI (eOf gInt (aCons (eBin gPlus (eBin gTimes (eVar 5) (eC (.int 2147483647))) (eCall false F__law_mixed [] (aCons (eVar 5) (aCons (eBin gPlus (eC (.int 7)) (eVar 2)) aNil)))) aNil)) (eC (.int 64))) (eVar 1)))
 sNext)))))))
def F__law_draw : FM := runB 6 B__law_draw
abbrev N__law_draw : List Str := ["_law_state", "_law_many", "_law_at", "_law_place", "_law_left", "_law_number"]
theorem sc__law_draw : FnScope N__law_draw ["_law_state", "_law_many"] (defScope (top 29)) := ⟨rfl, rfl, rfl, by decide +kernel, rfl, by decide +kernel, by decide +kernel⟩
theorem ok__law_draw {P : Program} {w : World} {K : PySem.W.Frag} {mg : Str → Option Value} {base h : Heap} (KX : K.In h) (G : h.Ns mainGlobals mg) (c : He.SaysD fa fn K) (htb : TBs K base mg tf) (cx : SaysE P K mg xs tf) (kx : isyB xcs xqo xqb K = true) : Has P w K mg base 2 "_law_draw" ["_law_state", "_law_many"] (callP K (true, (TTof K tf)) F__law_draw 2) := by
  have h__law_mixed : Has P w K mg base _ _ _ _ := ok__law_mixed KX G c htb cx kx
  have g_int := He.free_ok KX G (c.fact 3 (f := .free "int") rfl)
  have g_len := He.free_ok KX G (c.fact 5 (f := .free "len") rfl)
  have nd := sc__law_draw.nd
  obtain ⟨fd, Fd⟩ := c.def_ 2 (d := d__law_draw) rfl
  refine ⟨fd, Fd.kp, FunD.bindsN Fd (fun _ _ _ _ _ _ us hl => match us, hl with | [_, _], _ => rfl), He.glo_ok KX G (c.fact 4 (f := .glo "_law_draw") rfl), fn_ok Fd sc__law_draw fun cdv A outer s H E hr Wx tk D hK hst hT => ?_⟩
  replace hst : D.st = true := hst rfl
  have hu := DL.hu_of hr
  have hp : PassesOwn (model P w) (A.deeper (envOfC "_law_draw" (defScope (top 29)) s.heap.objs.size (He.ga K "_law_draw") cdv)) (envOfC "_law_draw" (defScope (top 29)) s.heap.objs.size (He.ga K "_law_draw") cdv) (cxOf (L2.CX P w) P w K mg base N__law_draw "_law_draw" (defScope (top 29)) (He.ga K "_law_draw") cdv A outer s H E).xe := passes_of (X := cxOf (L2.CX P w) P w K mg base N__law_draw "_law_draw" (defScope (top 29)) (He.ga K "_law_draw") cdv A outer s H E) rfl
  exact (dss_cons (ds_set (i := 2) nd rfl (by trivial) (dv_fz (de_cAt (i := 0) (hu1 hu) hst rfl (by trivial) (fun _ _ => rfl))))
 (dss_cons (ds_cAt (i := 0) (hu1 hu) hst rfl (by trivial) (de_op (dop_plus hK (dop_add hK)) (de_var (i := 2) rfl (by trivial)) de_int) rfl)
 (dss_cons (ds_set (i := 3) nd rfl (by trivial) (dv_fz (de_op dop_mod (de_callTy dc_int rfl g_int bt_int (da_cons (de_var (i := 2) rfl (by trivial)) da_nil)) (de_cLen (i := 0) hK (hu1 hu) hst rfl (by trivial) (fun _ _ => rfl) rfl g_len))))
 (dss_cons (ds_set (i := 4) nd rfl (by trivial) (dv_fz (de_cLeft (i := 0) (hu1 hu) hst rfl (by trivial) (fun _ _ => rfl) (de_var (i := 3) rfl (by trivial)) (fun _ _ => rfl))))
 (dss_cons (ds_if (dt_cmp (dop_gt hK (hu64 hu)) (de_var (i := 4) rfl (by trivial)) de_int (nomark _))
 (dss_cons (ds_cLeft (i := 0) (hu1 hu) hst rfl (by trivial) (fun _ _ => rfl) (de_op dop_div (de_var (i := 4) rfl (by trivial)) (de_var (i := 1) rfl (by trivial))) (de_var (i := 3) rfl (by trivial)))
 (dss_cons (ds_ret (de_op dop_mod (de_callTy dc_int rfl g_int bt_int (da_cons (de_var (i := 4) rfl (by trivial)) da_nil)) (de_var (i := 1) rfl (by trivial))))
 dss_nil))
 dss_nil)
 (dss_cons (ds_set (i := 5) nd rfl (by trivial) (dv_fz (de_fn h__law_mixed (Room.mono hr (by decide)) rfl tk (da_cons (de_fn h__law_mixed (Room.mono hr (by decide)) rfl tk (da_cons (de_cCell (i := 0) (hu1 hu) hst rfl (by trivial) (fun _ _ => rfl) (de_var (i := 3) rfl (by trivial)) (fun _ _ => rfl)) (da_cons (de_var (i := 2) rfl (by trivial)) da_nil)) hK (fun h => Bool.noConfusion h) hT (lq_cons (lq_cons lq_nil))) (da_cons (de_op (dop_plus hK (dop_add hK)) de_int (de_var (i := 2) rfl (by trivial))) da_nil)) hK (fun h => Bool.noConfusion h) hT (lq_cons (lq_cons lq_nil)))))
 (dss_cons (ds_ret (de_op dop_mod (de_op dop_div (de_callTy dc_int rfl g_int bt_int (da_cons (de_op (dop_plus hK (dop_add hK)) (de_op (dop_times hK) (de_var (i := 5) rfl (by trivial)) de_int) (de_fn h__law_mixed (Room.mono hr (by decide)) rfl tk (da_cons (de_var (i := 5) rfl (by trivial)) (da_cons (de_op (dop_plus hK (dop_add hK)) de_int (de_var (i := 2) rfl (by trivial))) da_nil)) hK (fun h => Bool.noConfusion h) hT (lq_cons (lq_cons lq_nil)))) da_nil)) de_int) (de_var (i := 1) rfl (by trivial))))
 dss_nil)))))))
def B__law_of : SM :=
 (sSeq (sRet (eBin ixW (eVar 1) (eCall true F__law_draw [] (aCons (eVar 0) (aCons (eOf gLen (aCons (eVar 1) aNil)) aNil)))))
 sNext)
def F__law_of : FM := runB 2 B__law_of
abbrev N__law_of : List Str := ["_law_state", "_law_some"]
theorem sc__law_of : FnScope N__law_of ["_law_state", "_law_some"] (defScope (top 30)) := ⟨rfl, rfl, rfl, by decide +kernel, rfl, by decide +kernel, by decide +kernel⟩
theorem ok__law_of {P : Program} {w : World} {K : PySem.W.Frag} {mg : Str → Option Value} {base h : Heap} (KX : K.In h) (G : h.Ns mainGlobals mg) (c : He.SaysD fa fn K) (htb : TBs K base mg tf) (cx : SaysE P K mg xs tf) (kx : isyB xcs xqo xqb K = true) : Has P w K mg base 3 "_law_of" ["_law_state", "_law_some"] (callP K (true, (TTof K tf)) F__law_of 2) := by
  have h__law_draw : Has P w K mg base _ _ _ _ := ok__law_draw KX G c htb cx kx
  have g_len := He.free_ok KX G (c.fact 5 (f := .free "len") rfl)
  have nd := sc__law_of.nd
  obtain ⟨fd, Fd⟩ := c.def_ 3 (d := d__law_of) rfl
  refine ⟨fd, Fd.kp, FunD.bindsN Fd (fun _ _ _ _ _ _ us hl => match us, hl with | [_, _], _ => rfl), He.glo_ok KX G (c.fact 6 (f := .glo "_law_of") rfl), fn_ok Fd sc__law_of fun cdv A outer s H E hr Wx tk D hK hst hT => ?_⟩
  replace hst : D.st = true := hst rfl
  have hu := DL.hu_of hr
  have hp : PassesOwn (model P w) (A.deeper (envOfC "_law_of" (defScope (top 30)) s.heap.objs.size (He.ga K "_law_of") cdv)) (envOfC "_law_of" (defScope (top 30)) s.heap.objs.size (He.ga K "_law_of") cdv) (cxOf (L2.CX P w) P w K mg base N__law_of "_law_of" (defScope (top 30)) (He.ga K "_law_of") cdv A outer s H E).xe := passes_of (X := cxOf (L2.CX P w) P w K mg base N__law_of "_law_of" (defScope (top 30)) (He.ga K "_law_of") cdv A outer s H E) rfl
  exact (dss_cons (ds_ret (de_ixD hK (hu1 hu) (de_var (i := 1) rfl (by trivial)) (de_fn h__law_draw (Room.mono hr (by decide)) rfl tk (da_cons (de_var (i := 0) rfl (by trivial)) (da_cons (de_callB (dc_len hK) rfl g_len bt_len (da_cons (de_var (i := 1) rfl (by trivial)) da_nil)) da_nil)) hK (fun _ => hst) hT (lq_cons (lq_cons lq_nil))) (fun _ _ => rfl)))
 dss_nil)
def B__law_field : SM :=
 (sSeq (sIf (tVal (eBin gEq (eVar 1) (eC (.str "part"))))
 (sSeq (sRet (eFldE ["BadPaper", "BadQuery"] "part" (eVar 0)))
 sNext)
 sNext)
 (sSeq (sIf (tVal (eBin gEq (eVar 1) (eC (.str "place"))))
 (sSeq (sRet (eFldE ["BadDatabase"] "place" (eVar 0)))
 sNext)
 sNext)
 (sSeq (sIf (tVal (eBin gEq (eVar 1) (eC (.str "ring"))))
 (sSeq (sRet (eFldE ["Ringed"] "ring" (eVar 0)))
 sNext)
 sNext)
 (sSeq (sRet (eIf (tVal (eBin gEq (eVar 1) (eC (.str "path")))) (eFldE ["BadTerm"] "path" (eVar 0)) (eFldE ["BadBags", "BadBase", "BadColumn", "BadFact", "BadFraction", "BadGroup", "BadLeaving", "BadLot", "BadName", "BadNumber", "BadOrder", "BadOther", "BadSort", "BadTree", "BadTurn", "Missing"] "given" (eVar 0))))
 sNext))))
def F__law_field : FM := runB 2 B__law_field
abbrev N__law_field : List Str := ["_law_error", "_law_field_here"]
theorem sc__law_field : FnScope N__law_field ["_law_error", "_law_field_here"] (defScope (top 33)) := ⟨rfl, rfl, rfl, by decide +kernel, rfl, by decide +kernel, by decide +kernel⟩
theorem ok__law_field {P : Program} {w : World} {K : PySem.W.Frag} {mg : Str → Option Value} {base h : Heap} (KX : K.In h) (G : h.Ns mainGlobals mg) (c : He.SaysD fa fn K) (htb : TBs K base mg tf) (cx : SaysE P K mg xs tf) (kx : isyB xcs xqo xqb K = true) : Has P w K mg base 1 "_law_field" ["_law_error", "_law_field_here"] (callP K (true, (TTof K tf)) F__law_field 2) := by
  have nd := sc__law_field.nd
  obtain ⟨fd, Fd⟩ := c.def_ 4 (d := d__law_field) rfl
  refine ⟨fd, Fd.kp, FunD.bindsN Fd (fun _ _ _ _ _ _ us hl => match us, hl with | [_, _], _ => rfl), He.glo_ok KX G (c.fact 7 (f := .glo "_law_field") rfl), fn_ok Fd sc__law_field fun cdv A outer s H E hr Wx tk D hK hst hT => ?_⟩
  replace hst : D.st = true := hst rfl
  have hu := DL.hu_of hr
  have hp : PassesOwn (model P w) (A.deeper (envOfC "_law_field" (defScope (top 33)) s.heap.objs.size (He.ga K "_law_field") cdv)) (envOfC "_law_field" (defScope (top 33)) s.heap.objs.size (He.ga K "_law_field") cdv) (cxOf (L2.CX P w) P w K mg base N__law_field "_law_field" (defScope (top 33)) (He.ga K "_law_field") cdv A outer s H E).xe := passes_of (X := cxOf (L2.CX P w) P w K mg base N__law_field "_law_field" (defScope (top 33)) (He.ga K "_law_field") cdv A outer s H E) rfl
  exact (dss_cons (ds_if (dt_cmp (dop_eq hK (hu64 hu)) (de_var (i := 1) rfl (by trivial)) de_str (nomark _))
 (dss_cons (ds_ret (de_fldE hK (fld_of cx (by decide +kernel)) (de_var (i := 0) rfl (by trivial))))
 dss_nil)
 dss_nil)
 (dss_cons (ds_if (dt_cmp (dop_eq hK (hu64 hu)) (de_var (i := 1) rfl (by trivial)) de_str (nomark _))
 (dss_cons (ds_ret (de_fldE hK (fld_of cx (by decide +kernel)) (de_var (i := 0) rfl (by trivial))))
 dss_nil)
 dss_nil)
 (dss_cons (ds_if (dt_cmp (dop_eq hK (hu64 hu)) (de_var (i := 1) rfl (by trivial)) de_str (nomark _))
 (dss_cons (ds_ret (de_fldE hK (fld_of cx (by decide +kernel)) (de_var (i := 0) rfl (by trivial))))
 dss_nil)
 dss_nil)
 (dss_cons (ds_ret (de_if (dt_cmp (dop_eq hK (hu64 hu)) (de_var (i := 1) rfl (by trivial)) de_str (nomark _)) (de_fldE hK (fld_of cx (by decide +kernel)) (de_var (i := 0) rfl (by trivial))) (de_fldE hK (fld_of cx (by decide +kernel)) (de_var (i := 0) rfl (by trivial)))))
 dss_nil))))
def B__law_kinds_of : SM :=
 (sSeq (sSet 1 (vFz (eFz (fLst (aCons (eIsE xcs ["BadBags", "BadBase", "BadColumn", "BadDatabase", "BadFact", "BadFraction", "BadGroup", "BadLeaving", "BadLot", "BadName", "BadNumber", "BadOrder", "BadOther", "BadPaper", "BadQuery", "BadSort", "BadTerm", "BadText", "BadTree", "BadTurn", "Ringed"] (eVar 0)) (aCons (eIsE xcs ["BadBags", "BadBase", "BadColumn", "BadDatabase", "BadFact", "BadFraction", "BadGroup", "BadLeaving", "BadLot", "BadName", "BadNumber", "BadOrder", "BadOther", "BadPaper", "BadQuery", "BadSort", "BadTerm", "BadText", "BadTree", "BadTurn", "Ringed"] (eVar 0)) (aCons (eIsE xcs ["TooMany"] (eVar 0)) aNil)))))))
 (sSeq (sRet (eBin gPlus (eVar 1) (eFz (fLst (aCons (eIsE xcs ["Missing"] (eVar 0)) (aCons (eIsE xcs ["NothingLeft"] (eVar 0)) aNil))))))
 sNext))
def F__law_kinds_of : FM := runB 2 B__law_kinds_of
abbrev N__law_kinds_of : List Str := ["_law_error", "_law_some"]
theorem sc__law_kinds_of : FnScope N__law_kinds_of ["_law_error"] (defScope (top 31)) := ⟨rfl, rfl, rfl, by decide +kernel, rfl, by decide +kernel, by decide +kernel⟩
theorem ok__law_kinds_of {P : Program} {w : World} {K : PySem.W.Frag} {mg : Str → Option Value} {base h : Heap} (KX : K.In h) (G : h.Ns mainGlobals mg) (c : He.SaysD fa fn K) (htb : TBs K base mg tf) (cx : SaysE P K mg xs tf) (kx : isyB xcs xqo xqb K = true) : Has P w K mg base 1 "_law_kinds_of" ["_law_error"] (callP K (true, (TTof K tf)) F__law_kinds_of 1) := by
  have gm_RoomError := He.glo_ok KX G (c.fact 12 (f := .glo "RoomError") rfl)
  have g_KeyError := He.free_ok KX G (c.fact 14 (f := .free "KeyError") rfl)
  have g_OverflowError := He.free_ok KX G (c.fact 10 (f := .free "OverflowError") rfl)
  have g_RuntimeError := He.free_ok KX G (c.fact 13 (f := .free "RuntimeError") rfl)
  have g_ValueError := He.free_ok KX G (c.fact 11 (f := .free "ValueError") rfl)
  have g_isinstance := He.free_ok KX G (c.fact 9 (f := .free "isinstance") rfl)
  have nd := sc__law_kinds_of.nd
  obtain ⟨fd, Fd⟩ := c.def_ 5 (d := d__law_kinds_of) rfl
  refine ⟨fd, Fd.kp, FunD.bindsN Fd (fun _ _ _ _ _ _ us hl => match us, hl with | [_], _ => rfl), He.glo_ok KX G (c.fact 8 (f := .glo "_law_kinds_of") rfl), fn_ok Fd sc__law_kinds_of fun cdv A outer s H E hr Wx tk D hK hst hT => ?_⟩
  replace hst : D.st = true := hst rfl
  have hu := DL.hu_of hr
  have hp : PassesOwn (model P w) (A.deeper (envOfC "_law_kinds_of" (defScope (top 31)) s.heap.objs.size (He.ga K "_law_kinds_of") cdv)) (envOfC "_law_kinds_of" (defScope (top 31)) s.heap.objs.size (He.ga K "_law_kinds_of") cdv) (cxOf (L2.CX P w) P w K mg base N__law_kinds_of "_law_kinds_of" (defScope (top 31)) (He.ga K "_law_kinds_of") cdv A outer s H E).xe := passes_of (X := cxOf (L2.CX P w) P w K mg base N__law_kinds_of "_law_kinds_of" (defScope (top 31)) (He.ga K "_law_kinds_of") cdv A outer s H E) rfl
  exact (dss_cons (ds_set (i := 1) nd rfl (by trivial) (dv_fz (de_fz (df_lst (da_cons (de_isO hK rfl g_isinstance rfl gm_RoomError (isx_own (isy_1 kx) 23) (de_var (i := 0) rfl (by trivial))) (da_cons (de_isT (T := "ValueError") hK rfl g_isinstance rfl g_ValueError (by decide +kernel) (by decide) (isx_blt (isy_1 kx) 3) (de_var (i := 0) rfl (by trivial))) (da_cons (de_isT (T := "OverflowError") hK rfl g_isinstance rfl g_OverflowError (by decide +kernel) (by decide) (isx_blt (isy_1 kx) 1) (de_var (i := 0) rfl (by trivial))) da_nil)))))))
 (dss_cons (ds_ret (de_op (dop_plus hK (dop_add hK)) (de_var (i := 1) rfl (by trivial)) (de_fz (df_lst (da_cons (de_isT (T := "KeyError") hK rfl g_isinstance rfl g_KeyError (by decide +kernel) (by decide) (isx_blt (isy_1 kx) 0) (de_var (i := 0) rfl (by trivial))) (da_cons (de_isT (T := "RuntimeError") hK rfl g_isinstance rfl g_RuntimeError (by decide +kernel) (by decide) (isx_blt (isy_1 kx) 2) (de_var (i := 0) rfl (by trivial))) da_nil))))))
 dss_nil))
def B__law_marks : SM :=
 (sSeq (sSet 1 (vFz (eFz (fLst (aCons (eIsE xcs ["BadQuery"] (eVar 0)) (aCons (eIsE xcs ["BadPaper"] (eVar 0)) (aCons (eIsE xcs ["BadDatabase"] (eVar 0)) aNil)))))))
 (sSeq (sSet 1 (vFz (eBin gPlus (eVar 1) (eFz (fLst (aCons (eIsE xcs ["Ringed"] (eVar 0)) (aCons (eIsE xcs ["BadTerm"] (eVar 0)) (aCons (eIsE xcs ["BadBase"] (eVar 0)) aNil))))))))
 (sSeq (sSet 1 (vFz (eBin gPlus (eVar 1) (eFz (fLst (aCons (eIsE xcs ["BadNumber"] (eVar 0)) (aCons (eIsE xcs ["BadLot"] (eVar 0)) (aCons (eIsE xcs ["BadOther"] (eVar 0)) aNil))))))))
 (sSeq (sSet 1 (vFz (eBin gPlus (eVar 1) (eFz (fLst (aCons (eIsE xcs ["BadColumn"] (eVar 0)) (aCons (eIsE xcs ["BadName"] (eVar 0)) (aCons (eIsE xcs ["BadFact"] (eVar 0)) aNil))))))))
 (sSeq (sSet 1 (vFz (eBin gPlus (eVar 1) (eFz (fLst (aCons (eIsE xcs ["BadGroup"] (eVar 0)) (aCons (eIsE xcs ["BadOrder"] (eVar 0)) (aCons (eIsE xcs ["BadFraction"] (eVar 0)) aNil))))))))
 (sSeq (sSet 1 (vFz (eBin gPlus (eVar 1) (eFz (fLst (aCons (eIsE xcs ["BadSort"] (eVar 0)) (aCons (eIsE xcs ["BadTurn"] (eVar 0)) (aCons (eIsE xcs ["BadTree"] (eVar 0)) aNil))))))))
 (sSeq (sSet 1 (vFz (eBin gPlus (eVar 1) (eFz (fLst (aCons (eIsE xcs ["BadLeaving"] (eVar 0)) (aCons (eIsE xcs ["BadBags"] (eVar 0)) (aCons (eIsE xcs ["BadText"] (eVar 0)) aNil))))))))
 (sSeq (sRet (eBin gPlus (eVar 1) (eFz (fLst (aCons (eIsE xcs ["TooMany"] (eVar 0)) (aCons (eIsE xcs ["Missing"] (eVar 0)) (aCons (eIsE xcs ["NothingLeft"] (eVar 0)) aNil)))))))
 sNext))))))))
def F__law_marks : FM := runB 2 B__law_marks
abbrev N__law_marks : List Str := ["_law_error", "_law_some"]
theorem sc__law_marks : FnScope N__law_marks ["_law_error"] (defScope (top 32)) := ⟨rfl, rfl, rfl, by decide +kernel, rfl, by decide +kernel, by decide +kernel⟩
theorem ok__law_marks {P : Program} {w : World} {K : PySem.W.Frag} {mg : Str → Option Value} {base h : Heap} (KX : K.In h) (G : h.Ns mainGlobals mg) (c : He.SaysD fa fn K) (htb : TBs K base mg tf) (cx : SaysE P K mg xs tf) (kx : isyB xcs xqo xqb K = true) : Has P w K mg base 1 "_law_marks" ["_law_error"] (callP K (true, (TTof K tf)) F__law_marks 1) := by
  have gm_BadBags := He.glo_ok KX G (c.fact 35 (f := .glo "BadBags") rfl)
  have gm_BadBase := He.glo_ok KX G (c.fact 19 (f := .glo "BadBase") rfl)
  have gm_BadColumn := He.glo_ok KX G (c.fact 27 (f := .glo "BadColumn") rfl)
  have gm_BadDatabase := He.glo_ok KX G (c.fact 16 (f := .glo "BadDatabase") rfl)
  have gm_BadFact := He.glo_ok KX G (c.fact 25 (f := .glo "BadFact") rfl)
  have gm_BadFraction := He.glo_ok KX G (c.fact 28 (f := .glo "BadFraction") rfl)
  have gm_BadGroup := He.glo_ok KX G (c.fact 30 (f := .glo "BadGroup") rfl)
  have gm_BadLeaving := He.glo_ok KX G (c.fact 36 (f := .glo "BadLeaving") rfl)
  have gm_BadLot := He.glo_ok KX G (c.fact 23 (f := .glo "BadLot") rfl)
  have gm_BadName := He.glo_ok KX G (c.fact 26 (f := .glo "BadName") rfl)
  have gm_BadNumber := He.glo_ok KX G (c.fact 24 (f := .glo "BadNumber") rfl)
  have gm_BadOrder := He.glo_ok KX G (c.fact 29 (f := .glo "BadOrder") rfl)
  have gm_BadOther := He.glo_ok KX G (c.fact 22 (f := .glo "BadOther") rfl)
  have gm_BadPaper := He.glo_ok KX G (c.fact 17 (f := .glo "BadPaper") rfl)
  have gm_BadQuery := He.glo_ok KX G (c.fact 18 (f := .glo "BadQuery") rfl)
  have gm_BadSort := He.glo_ok KX G (c.fact 33 (f := .glo "BadSort") rfl)
  have gm_BadTerm := He.glo_ok KX G (c.fact 20 (f := .glo "BadTerm") rfl)
  have gm_BadText := He.glo_ok KX G (c.fact 34 (f := .glo "BadText") rfl)
  have gm_BadTree := He.glo_ok KX G (c.fact 31 (f := .glo "BadTree") rfl)
  have gm_BadTurn := He.glo_ok KX G (c.fact 32 (f := .glo "BadTurn") rfl)
  have gm_Missing := He.glo_ok KX G (c.fact 38 (f := .glo "Missing") rfl)
  have gm_NothingLeft := He.glo_ok KX G (c.fact 37 (f := .glo "NothingLeft") rfl)
  have gm_Ringed := He.glo_ok KX G (c.fact 21 (f := .glo "Ringed") rfl)
  have gm_TooMany := He.glo_ok KX G (c.fact 39 (f := .glo "TooMany") rfl)
  have g_isinstance := He.free_ok KX G (c.fact 9 (f := .free "isinstance") rfl)
  have nd := sc__law_marks.nd
  obtain ⟨fd, Fd⟩ := c.def_ 6 (d := d__law_marks) rfl
  refine ⟨fd, Fd.kp, FunD.bindsN Fd (fun _ _ _ _ _ _ us hl => match us, hl with | [_], _ => rfl), He.glo_ok KX G (c.fact 15 (f := .glo "_law_marks") rfl), fn_ok Fd sc__law_marks fun cdv A outer s H E hr Wx tk D hK hst hT => ?_⟩
  replace hst : D.st = true := hst rfl
  have hu := DL.hu_of hr
  have hp : PassesOwn (model P w) (A.deeper (envOfC "_law_marks" (defScope (top 32)) s.heap.objs.size (He.ga K "_law_marks") cdv)) (envOfC "_law_marks" (defScope (top 32)) s.heap.objs.size (He.ga K "_law_marks") cdv) (cxOf (L2.CX P w) P w K mg base N__law_marks "_law_marks" (defScope (top 32)) (He.ga K "_law_marks") cdv A outer s H E).xe := passes_of (X := cxOf (L2.CX P w) P w K mg base N__law_marks "_law_marks" (defScope (top 32)) (He.ga K "_law_marks") cdv A outer s H E) rfl
  exact (dss_cons (ds_set (i := 1) nd rfl (by trivial) (dv_fz (de_fz (df_lst (da_cons (de_isO hK rfl g_isinstance rfl gm_BadQuery (isx_own (isy_1 kx) 14) (de_var (i := 0) rfl (by trivial))) (da_cons (de_isO hK rfl g_isinstance rfl gm_BadPaper (isx_own (isy_1 kx) 13) (de_var (i := 0) rfl (by trivial))) (da_cons (de_isO hK rfl g_isinstance rfl gm_BadDatabase (isx_own (isy_1 kx) 3) (de_var (i := 0) rfl (by trivial))) da_nil)))))))
 (dss_cons (ds_set (i := 1) nd rfl (by trivial) (dv_fz (de_op (dop_plus hK (dop_add hK)) (de_var (i := 1) rfl (by trivial)) (de_fz (df_lst (da_cons (de_isO hK rfl g_isinstance rfl gm_Ringed (isx_own (isy_1 kx) 22) (de_var (i := 0) rfl (by trivial))) (da_cons (de_isO hK rfl g_isinstance rfl gm_BadTerm (isx_own (isy_1 kx) 16) (de_var (i := 0) rfl (by trivial))) (da_cons (de_isO hK rfl g_isinstance rfl gm_BadBase (isx_own (isy_1 kx) 1) (de_var (i := 0) rfl (by trivial))) da_nil))))))))
 (dss_cons (ds_set (i := 1) nd rfl (by trivial) (dv_fz (de_op (dop_plus hK (dop_add hK)) (de_var (i := 1) rfl (by trivial)) (de_fz (df_lst (da_cons (de_isO hK rfl g_isinstance rfl gm_BadNumber (isx_own (isy_1 kx) 10) (de_var (i := 0) rfl (by trivial))) (da_cons (de_isO hK rfl g_isinstance rfl gm_BadLot (isx_own (isy_1 kx) 8) (de_var (i := 0) rfl (by trivial))) (da_cons (de_isO hK rfl g_isinstance rfl gm_BadOther (isx_own (isy_1 kx) 12) (de_var (i := 0) rfl (by trivial))) da_nil))))))))
 (dss_cons (ds_set (i := 1) nd rfl (by trivial) (dv_fz (de_op (dop_plus hK (dop_add hK)) (de_var (i := 1) rfl (by trivial)) (de_fz (df_lst (da_cons (de_isO hK rfl g_isinstance rfl gm_BadColumn (isx_own (isy_1 kx) 2) (de_var (i := 0) rfl (by trivial))) (da_cons (de_isO hK rfl g_isinstance rfl gm_BadName (isx_own (isy_1 kx) 9) (de_var (i := 0) rfl (by trivial))) (da_cons (de_isO hK rfl g_isinstance rfl gm_BadFact (isx_own (isy_1 kx) 4) (de_var (i := 0) rfl (by trivial))) da_nil))))))))
 (dss_cons (ds_set (i := 1) nd rfl (by trivial) (dv_fz (de_op (dop_plus hK (dop_add hK)) (de_var (i := 1) rfl (by trivial)) (de_fz (df_lst (da_cons (de_isO hK rfl g_isinstance rfl gm_BadGroup (isx_own (isy_1 kx) 6) (de_var (i := 0) rfl (by trivial))) (da_cons (de_isO hK rfl g_isinstance rfl gm_BadOrder (isx_own (isy_1 kx) 11) (de_var (i := 0) rfl (by trivial))) (da_cons (de_isO hK rfl g_isinstance rfl gm_BadFraction (isx_own (isy_1 kx) 5) (de_var (i := 0) rfl (by trivial))) da_nil))))))))
 (dss_cons (ds_set (i := 1) nd rfl (by trivial) (dv_fz (de_op (dop_plus hK (dop_add hK)) (de_var (i := 1) rfl (by trivial)) (de_fz (df_lst (da_cons (de_isO hK rfl g_isinstance rfl gm_BadSort (isx_own (isy_1 kx) 15) (de_var (i := 0) rfl (by trivial))) (da_cons (de_isO hK rfl g_isinstance rfl gm_BadTurn (isx_own (isy_1 kx) 19) (de_var (i := 0) rfl (by trivial))) (da_cons (de_isO hK rfl g_isinstance rfl gm_BadTree (isx_own (isy_1 kx) 18) (de_var (i := 0) rfl (by trivial))) da_nil))))))))
 (dss_cons (ds_set (i := 1) nd rfl (by trivial) (dv_fz (de_op (dop_plus hK (dop_add hK)) (de_var (i := 1) rfl (by trivial)) (de_fz (df_lst (da_cons (de_isO hK rfl g_isinstance rfl gm_BadLeaving (isx_own (isy_1 kx) 7) (de_var (i := 0) rfl (by trivial))) (da_cons (de_isO hK rfl g_isinstance rfl gm_BadBags (isx_own (isy_1 kx) 0) (de_var (i := 0) rfl (by trivial))) (da_cons (de_isO hK rfl g_isinstance rfl gm_BadText (isx_own (isy_1 kx) 17) (de_var (i := 0) rfl (by trivial))) da_nil))))))))
 (dss_cons (ds_ret (de_op (dop_plus hK (dop_add hK)) (de_var (i := 1) rfl (by trivial)) (de_fz (df_lst (da_cons (de_isO hK rfl g_isinstance rfl gm_TooMany (isx_own (isy_1 kx) 24) (de_var (i := 0) rfl (by trivial))) (da_cons (de_isO hK rfl g_isinstance rfl gm_Missing (isx_own (isy_1 kx) 20) (de_var (i := 0) rfl (by trivial))) (da_cons (de_isO hK rfl g_isinstance rfl gm_NothingLeft (isx_own (isy_1 kx) 21) (de_var (i := 0) rfl (by trivial))) da_nil)))))))
 dss_nil))))))))
def B__law_right : SM :=
 (sSeq (sSet 2 (vFz (eFz (fLst (aCons (eTup (aCons (eMkE "BadQuery" "part" (eVar 0)) (aCons (eC (.str "part")) aNil))) (aCons (eTup (aCons (eMkE "BadPaper" "part" (eVar 0)) (aCons (eC (.str "part")) aNil))) (aCons (eTup (aCons (eMkE "BadDatabase" "place" (eVar 0)) (aCons (eC (.str "place")) aNil))) aNil)))))))
 (sSeq (sSet 2 (vFz (eBin gPlus (eVar 2) (eFz (fLst (aCons (eTup (aCons (eMkE "Ringed" "ring" (eVar 0)) (aCons (eC (.str "ring")) aNil))) (aCons (eTup (aCons (eMkE "BadTerm" "path" (eVar 0)) (aCons (eC (.str "path")) aNil))) aNil)))))))
 (sSeq (sSet 3 (vFz (eFz (fLst (aCons (eMkE "BadBase" "given" (eVar 0)) (aCons (eMkE "BadNumber" "given" (eVar 0)) (aCons (eMkE "BadLot" "given" (eVar 0)) (aCons (eMkE "BadOther" "given" (eVar 0)) (aCons (eMkE "BadColumn" "given" (eVar 0)) (aCons (eMkE "BadName" "given" (eVar 0)) aNil))))))))))
 (sSeq (sSet 3 (vFz (eBin gPlus (eVar 3) (eFz (fLst (aCons (eMkE "BadFact" "given" (eVar 0)) (aCons (eMkE "BadGroup" "given" (eVar 0)) (aCons (eMkE "BadOrder" "given" (eVar 0)) (aCons (eMkE "BadFraction" "given" (eVar 0)) (aCons (eMkE "BadSort" "given" (eVar 0)) aNil))))))))))
 (sSeq (sSet 3 (vFz (eBin gPlus (eVar 3) (eFz (fLst (aCons (eMkE "BadTurn" "given" (eVar 0)) (aCons (eMkE "BadTree" "given" (eVar 0)) (aCons (eMkE "BadLeaving" "given" (eVar 0)) (aCons (eMkE "BadBags" "given" (eVar 0)) aNil)))))))))
 (sSeq (sFor (iEn (eBin gPlus (eVar 2) (eFz (fComp (iS (eVar 3)) (setFz 5) tYesM (eTup (aCons (eVar 5) (aCons (eC (.str "given")) aNil))) [5])))) (gTupW (gsCons (setFz 4) (gsCons (gTupW (gsCons (setFz 5) (gsCons (setFz 6) gsNil))) gsNil)))
 (sSeq (sIf (tVal (eBin gNe (eOf gReprF (aCons (eCall true F__law_field [] (aCons (eVar 5) (aCons (eVar 6) aNil))) aNil)) (eOf gReprF (aCons (eVar 0) aNil))))
 (sSeq (sRet (eC (.bool false)))
 sNext)
 sNext)
 (sSeq (sIf (tVal (eBin gNe (eCall true F__law_marks [] (aCons (eVar 5) aNil)) (eFz (fComp (iR1 (aCons (eC (.int 24)) aNil)) (setFz 15) tYesM (eBin gEq (eVar 15) (eVar 4)) [15]))))
 (sSeq (sRet (eC (.bool false)))
 sNext)
 sNext)
 (sSeq (sIf (tVal (eBin gNe (eCall true F__law_kinds_of [] (aCons (eVar 5) aNil)) (eFz (fLst (aCons (eC (.bool true)) (aCons (eC (.bool true)) (aCons (eC (.bool false)) (aCons (eC (.bool false)) (aCons (eC (.bool false)) aNil)))))))))
 (sSeq (sRet (eC (.bool false)))
 sNext)
 sNext)
 sNext))))
 (sSeq (sAsg (eTup (aCons (eMkE2 "BadText" "line" "word" (eVar 0) (eVar 1)) (aCons (eMkE "TooMany" "most" (eVar 0)) (aCons (eMkE "Missing" "given" (eVar 0)) (aCons (eMkE "NothingLeft" "many" (eVar 0)) aNil))))) (gTupW (gsCons (setFz 7) (gsCons (setFz 8) (gsCons (setFz 9) (gsCons (setFz 10) gsNil))))))
 (sSeq (sSet 11 (vFz (eFz (fLst (aCons (eFldE ["BadText"] "line" (eVar 7)) (aCons (eFldE ["BadText"] "word" (eVar 7)) (aCons (eFldE ["TooMany"] "most" (eVar 8)) (aCons (eFldE ["BadBags", "BadBase", "BadColumn", "BadFact", "BadFraction", "BadGroup", "BadLeaving", "BadLot", "BadName", "BadNumber", "BadOrder", "BadOther", "BadSort", "BadTree", "BadTurn", "Missing"] "given" (eVar 9)) (aCons (eFldE ["NothingLeft"] "many" (eVar 10)) aNil)))))))))
 (sSeq (sIf (tVal (eBin gNe (eOf gReprF (aCons (eVar 11) aNil)) (eOf gReprF (aCons (eFz (fLst (aCons (eVar 0) (aCons (eVar 1) (aCons (eVar 0) (aCons (eVar 0) (aCons (eVar 0) aNil))))))) aNil))))
 (sSeq (sRet (eC (.bool false)))
 sNext)
 sNext)
 (sSeq (sSet 12 (vFz (eFz (fLst (aCons (eCall true F__law_marks [] (aCons (eVar 7) aNil)) (aCons (eCall true F__law_marks [] (aCons (eVar 8) aNil)) (aCons (eCall true F__law_marks [] (aCons (eVar 9) aNil)) (aCons (eCall true F__law_marks [] (aCons (eVar 10) aNil)) aNil))))))))
 (sSeq (sIf (tVal (eBin gNe (eVar 12) (eFz (fComp (iR2 (aCons (eC (.int 20)) (aCons (eC (.int 24)) aNil))) (setFz 4) tYesM (eFz (fComp (iR1 (aCons (eC (.int 24)) aNil)) (setFz 15) tYesM (eBin gEq (eVar 15) (eVar 4)) [15])) [4]))))
 (sSeq (sRet (eC (.bool false)))
 sNext)
 sNext)
 (sSeq (sSet 13 (vFz (eFz (fLst (aCons (eCall true F__law_kinds_of [] (aCons (eVar 7) aNil)) (aCons (eCall true F__law_kinds_of [] (aCons (eVar 8) aNil)) (aCons (eCall true F__law_kinds_of [] (aCons (eVar 9) aNil)) (aCons (eCall true F__law_kinds_of [] (aCons (eVar 10) aNil)) aNil))))))))
 (sSeq (sSet 14 (vOw (fComp (iR2 (aCons (eC (.int 1)) (aCons (eC (.int 5)) aNil))) (setFz 15) tYesM (eFz (fComp (iR2 (aCons (eC (.int 1)) (aCons (eC (.int 5)) aNil))) (setFz 4) tYesM (eBin gEq (eVar 4) (eVar 15)) [4])) [15])))
 (sSeq (sFrz 14) (sSeq (sRet (eBin gEq (eVar 13) (eFz (fComp (iZpR (eC (.int 1)) (eC (.int 5)) (eVar 14)) (gTupW (gsCons (setFz 15) (gsCons (setFz 16) gsNil))) tYesM (eBin gPlus (eFz (fLst (aCons (eBin gEq (eVar 15) (eC (.int 1))) aNil))) (eVar 16)) [15, 16]))))
 sNext)))))))))))))))
def F__law_right : FM := runB 17 B__law_right
abbrev N__law_right : List Str := ["_law_one", "_law_other", "_law_rows", "_law_some", "_law_k", "_law_error", "_law_field_here", "_law_text", "_law_great", "_law_lost", "_law_none_left", "_law_fields", "_law_marks_here", "_law_kinds", "_law_due", "_law_n", "_law_row"]
theorem sc__law_right : FnScope N__law_right ["_law_one", "_law_other"] (defScope (top 34)) := ⟨rfl, rfl, rfl, by decide +kernel, rfl, by decide +kernel, by decide +kernel⟩
theorem ok__law_right {P : Program} {w : World} {K : PySem.W.Frag} {mg : Str → Option Value} {base h : Heap} (KX : K.In h) (G : h.Ns mainGlobals mg) (c : He.SaysD fa fn K) (htb : TBs K base mg tf) (cx : SaysE P K mg xs tf) (kx : isyB xcs xqo xqb K = true) : HasG P w K mg base 3 "_law_right" ["_law_one", "_law_other"] (callP K (true, (TTof K tf)) F__law_right 2) := by
  have xf_BadBags : ExcF P w K mg base "BadBags" "given" := ext_BadBags KX G c cx
  have xf_BadBase : ExcF P w K mg base "BadBase" "given" := ext_BadBase KX G c cx
  have xf_BadColumn : ExcF P w K mg base "BadColumn" "given" := ext_BadColumn KX G c cx
  have xf_BadDatabase : ExcF P w K mg base "BadDatabase" "place" := ext_BadDatabase KX G c cx
  have xf_BadFact : ExcF P w K mg base "BadFact" "given" := ext_BadFact KX G c cx
  have xf_BadFraction : ExcF P w K mg base "BadFraction" "given" := ext_BadFraction KX G c cx
  have xf_BadGroup : ExcF P w K mg base "BadGroup" "given" := ext_BadGroup KX G c cx
  have xf_BadLeaving : ExcF P w K mg base "BadLeaving" "given" := ext_BadLeaving KX G c cx
  have xf_BadLot : ExcF P w K mg base "BadLot" "given" := ext_BadLot KX G c cx
  have xf_BadName : ExcF P w K mg base "BadName" "given" := ext_BadName KX G c cx
  have xf_BadNumber : ExcF P w K mg base "BadNumber" "given" := ext_BadNumber KX G c cx
  have xf_BadOrder : ExcF P w K mg base "BadOrder" "given" := ext_BadOrder KX G c cx
  have xf_BadOther : ExcF P w K mg base "BadOther" "given" := ext_BadOther KX G c cx
  have xf_BadPaper : ExcF P w K mg base "BadPaper" "part" := ext_BadPaper KX G c cx
  have xf_BadQuery : ExcF P w K mg base "BadQuery" "part" := ext_BadQuery KX G c cx
  have xf_BadSort : ExcF P w K mg base "BadSort" "given" := ext_BadSort KX G c cx
  have xf_BadTerm : ExcF P w K mg base "BadTerm" "path" := ext_BadTerm KX G c cx
  have xf_BadText : ExcF2 P w K mg base "BadText" "line" "word" := ext_BadText KX G c cx
  have xf_BadTree : ExcF P w K mg base "BadTree" "given" := ext_BadTree KX G c cx
  have xf_BadTurn : ExcF P w K mg base "BadTurn" "given" := ext_BadTurn KX G c cx
  have xf_Missing : ExcFG P w K mg base "Missing" "given" := ext_Missing KX G c cx
  have xf_NothingLeft : ExcFG P w K mg base "NothingLeft" "many" := ext_NothingLeft KX G c cx
  have xf_Ringed : ExcF P w K mg base "Ringed" "ring" := ext_Ringed KX G c cx
  have xf_TooMany : ExcFG P w K mg base "TooMany" "most" := ext_TooMany KX G c cx
  have h__law_field : Has P w K mg base _ _ _ _ := ok__law_field KX G c htb cx kx
  have h__law_kinds_of : Has P w K mg base _ _ _ _ := ok__law_kinds_of KX G c htb cx kx
  have h__law_marks : Has P w K mg base _ _ _ _ := ok__law_marks KX G c htb cx kx
  have g_enumerate := He.free_ok KX G (c.fact 41 (f := .free "enumerate") rfl)
  have g_range := He.free_ok KX G (c.fact 43 (f := .free "range") rfl)
  have g_repr := He.free_ok KX G (c.fact 42 (f := .free "repr") rfl)
  have g_zip := He.free_ok KX G (c.fact 45 (f := .free "zip") rfl)
  have nd := sc__law_right.nd
  obtain ⟨fd, Fd⟩ := c.def_ 7 (d := d__law_right) rfl
  refine ⟨fd, Fd.kp, FunD.bindsN Fd (fun _ _ _ _ _ _ us hl => match us, hl with | [_, _], _ => rfl), He.glo_ok KX G (c.fact 40 (f := .glo "_law_right") rfl), FnG.imp (fn_okG ("_law_right", none) rfl Fd sc__law_right fun cdv hc A outer s H E hgd hr Wx tk D hK hst hT => ?_) (fun _ _ _ _ h => .inl h)⟩
  replace hst : D.st = true := hst rfl
  have hu := DL.hu_of hr
  have hp : PassesOwn (model P w) (A.deeper (envOfC "_law_right" (defScope (top 34)) s.heap.objs.size (He.ga K "_law_right") cdv)) (envOfC "_law_right" (defScope (top 34)) s.heap.objs.size (He.ga K "_law_right") cdv) (cxOf (L2.CX P w) P w K mg base N__law_right "_law_right" (defScope (top 34)) (He.ga K "_law_right") cdv A outer s H E).xe := passes_of (X := cxOf (L2.CX P w) P w K mg base N__law_right "_law_right" (defScope (top 34)) (He.ga K "_law_right") cdv A outer s H E) rfl
  exact (dss_cons (ds_set (i := 2) nd rfl (by trivial) (dv_fz (de_fz (df_lst (da_cons (de_tup (da_cons (de_mkE xf_BadQuery hst tk (Room.mono hr (by decide)) rfl hK (de_var (i := 0) rfl (by trivial))) (da_cons de_str da_nil))) (da_cons (de_tup (da_cons (de_mkE xf_BadPaper hst tk (Room.mono hr (by decide)) rfl hK (de_var (i := 0) rfl (by trivial))) (da_cons de_str da_nil))) (da_cons (de_tup (da_cons (de_mkE xf_BadDatabase hst tk (Room.mono hr (by decide)) rfl hK (de_var (i := 0) rfl (by trivial))) (da_cons de_str da_nil))) da_nil)))))))
 (dss_cons (ds_set (i := 2) nd rfl (by trivial) (dv_fz (de_op (dop_plus hK (dop_add hK)) (de_var (i := 2) rfl (by trivial)) (de_fz (df_lst (da_cons (de_tup (da_cons (de_mkE xf_Ringed hst tk (Room.mono hr (by decide)) rfl hK (de_var (i := 0) rfl (by trivial))) (da_cons de_str da_nil))) (da_cons (de_tup (da_cons (de_mkE xf_BadTerm hst tk (Room.mono hr (by decide)) rfl hK (de_var (i := 0) rfl (by trivial))) (da_cons de_str da_nil))) da_nil)))))))
 (dss_cons (ds_set (i := 3) nd rfl (by trivial) (dv_fz (de_fz (df_lst (da_cons (de_mkE xf_BadBase hst tk (Room.mono hr (by decide)) rfl hK (de_var (i := 0) rfl (by trivial))) (da_cons (de_mkE xf_BadNumber hst tk (Room.mono hr (by decide)) rfl hK (de_var (i := 0) rfl (by trivial))) (da_cons (de_mkE xf_BadLot hst tk (Room.mono hr (by decide)) rfl hK (de_var (i := 0) rfl (by trivial))) (da_cons (de_mkE xf_BadOther hst tk (Room.mono hr (by decide)) rfl hK (de_var (i := 0) rfl (by trivial))) (da_cons (de_mkE xf_BadColumn hst tk (Room.mono hr (by decide)) rfl hK (de_var (i := 0) rfl (by trivial))) (da_cons (de_mkE xf_BadName hst tk (Room.mono hr (by decide)) rfl hK (de_var (i := 0) rfl (by trivial))) da_nil))))))))))
 (dss_cons (ds_set (i := 3) nd rfl (by trivial) (dv_fz (de_op (dop_plus hK (dop_add hK)) (de_var (i := 3) rfl (by trivial)) (de_fz (df_lst (da_cons (de_mkE xf_BadFact hst tk (Room.mono hr (by decide)) rfl hK (de_var (i := 0) rfl (by trivial))) (da_cons (de_mkE xf_BadGroup hst tk (Room.mono hr (by decide)) rfl hK (de_var (i := 0) rfl (by trivial))) (da_cons (de_mkE xf_BadOrder hst tk (Room.mono hr (by decide)) rfl hK (de_var (i := 0) rfl (by trivial))) (da_cons (de_mkE xf_BadFraction hst tk (Room.mono hr (by decide)) rfl hK (de_var (i := 0) rfl (by trivial))) (da_cons (de_mkE xf_BadSort hst tk (Room.mono hr (by decide)) rfl hK (de_var (i := 0) rfl (by trivial))) da_nil))))))))))
 (dss_cons (ds_set (i := 3) nd rfl (by trivial) (dv_fz (de_op (dop_plus hK (dop_add hK)) (de_var (i := 3) rfl (by trivial)) (de_fz (df_lst (da_cons (de_mkE xf_BadTurn hst tk (Room.mono hr (by decide)) rfl hK (de_var (i := 0) rfl (by trivial))) (da_cons (de_mkE xf_BadTree hst tk (Room.mono hr (by decide)) rfl hK (de_var (i := 0) rfl (by trivial))) (da_cons (de_mkE xf_BadLeaving hst tk (Room.mono hr (by decide)) rfl hK (de_var (i := 0) rfl (by trivial))) (da_cons (de_mkE xf_BadBags hst tk (Room.mono hr (by decide)) rfl hK (de_var (i := 0) rfl (by trivial))) da_nil)))))))))
 (dss_cons (ds_for hp rfl (di_enum hK rfl g_enumerate (de_op (dop_plus hK (dop_add hK)) (de_var (i := 2) rfl (by trivial)) (de_fz (df_comp (own := [("_law_error", 5)]) hK rfl nd (di_seq hK (de_var (i := 3) rfl (by trivial))) (blkOk_by (by rfl)) (fun _ _ _ _ _ D hK hS => have hT := (congrArg Prod.snd hS).trans hT; have hst : D.st = true := (congrArg Prod.fst hS).trans hst; (dg_name (i := 5) nd rfl (by trivial))) (fun _ _ _ _ _ D hK hS => have hT := (congrArg Prod.snd hS).trans hT; have hst : D.st = true := (congrArg Prod.fst hS).trans hst; pts0) (fun _ _ _ _ _ D hK hS => have hT := (congrArg Prod.snd hS).trans hT; have hst : D.st = true := (congrArg Prod.fst hS).trans hst; (de_tup (da_cons (de_var (i := 5) rfl (by trivial)) (da_cons de_str da_nil)))) q_yes (q_tup (q_cons q_var (q_cons q_c q_nil))) (by decide))))) (dg_tup hK rfl (dgs_cons (dg_name (i := 4) nd rfl (by trivial)) (dgs_cons (dg_tup hK rfl (dgs_cons (dg_name (i := 5) nd rfl (by trivial)) (dgs_cons (dg_name (i := 6) nd rfl (by trivial)) dgs_nil))) dgs_nil)))
 (dss_cons (ds_if (dt_cmp (dop_ne hK (hu64 hu)) (de_callB (dc_reprF (isy_2 kx) hK hgd hu) rfl g_repr bt_repr (da_cons (de_fn h__law_field (Room.mono hr (by decide)) rfl tk (da_cons (de_var (i := 5) rfl (by trivial)) (da_cons (de_var (i := 6) rfl (by trivial)) da_nil)) hK (fun _ => hst) hT (lq_cons (lq_cons lq_nil))) da_nil)) (de_callB (dc_reprF (isy_2 kx) hK hgd hu) rfl g_repr bt_repr (da_cons (de_var (i := 0) rfl (by trivial)) da_nil)) (nomark _))
 (dss_cons (ds_ret de_bl)
 dss_nil)
 dss_nil)
 (dss_cons (ds_if (dt_cmp (dop_ne hK (hu64 hu)) (de_fn h__law_marks (Room.mono hr (by decide)) rfl tk (da_cons (de_var (i := 5) rfl (by trivial)) da_nil) hK (fun _ => hst) hT (lq_cons lq_nil)) (de_fz (df_comp (own := [("_law_n", 15)]) hK rfl nd (di_range1 rfl g_range (da_cons de_int da_nil)) (blkOk_by (by rfl)) (fun _ _ _ _ _ D hK hS => have hT := (congrArg Prod.snd hS).trans hT; have hst : D.st = true := (congrArg Prod.fst hS).trans hst; (dg_name (i := 15) nd rfl (by trivial))) (fun _ _ _ _ _ D hK hS => have hT := (congrArg Prod.snd hS).trans hT; have hst : D.st = true := (congrArg Prod.fst hS).trans hst; pts0) (fun _ _ _ _ _ D hK hS => have hT := (congrArg Prod.snd hS).trans hT; have hst : D.st = true := (congrArg Prod.fst hS).trans hst; (de_cmp (dop_eq hK (hu64 hu)) (de_var (i := 15) rfl (by trivial)) (de_var (i := 4) rfl (by trivial)) (nomark _))) q_yes (q_bin q_var q_var) (by decide))) (nomark _))
 (dss_cons (ds_ret de_bl)
 dss_nil)
 dss_nil)
 (dss_cons (ds_if (dt_cmp (dop_ne hK (hu64 hu)) (de_fn h__law_kinds_of (Room.mono hr (by decide)) rfl tk (da_cons (de_var (i := 5) rfl (by trivial)) da_nil) hK (fun _ => hst) hT (lq_cons lq_nil)) (de_fz (df_lst (da_cons de_bl (da_cons de_bl (da_cons de_bl (da_cons de_bl (da_cons de_bl da_nil))))))) (nomark _))
 (dss_cons (ds_ret de_bl)
 dss_nil)
 dss_nil)
 dss_nil))))
 (dss_cons (ds_asg (de_tup (da_cons (de_mkE2 xf_BadText hst tk (Room.mono hr (by decide)) rfl hK (de_var (i := 0) rfl (by trivial)) (de_var (i := 1) rfl (by trivial))) (da_cons (de_mkEG xf_TooMany hst tk (Room.mono hr (by decide)) rfl hK (de_var (i := 0) rfl (by trivial))) (da_cons (de_mkEG xf_Missing hst tk (Room.mono hr (by decide)) rfl hK (de_var (i := 0) rfl (by trivial))) (da_cons (de_mkEG xf_NothingLeft hst tk (Room.mono hr (by decide)) rfl hK (de_var (i := 0) rfl (by trivial))) da_nil))))) (dg_tup hK rfl (dgs_cons (dg_name (i := 7) nd rfl (by trivial)) (dgs_cons (dg_name (i := 8) nd rfl (by trivial)) (dgs_cons (dg_name (i := 9) nd rfl (by trivial)) (dgs_cons (dg_name (i := 10) nd rfl (by trivial)) dgs_nil))))))
 (dss_cons (ds_set (i := 11) nd rfl (by trivial) (dv_fz (de_fz (df_lst (da_cons (de_fldE hK (fld_of cx (by decide +kernel)) (de_var (i := 7) rfl (by trivial))) (da_cons (de_fldE hK (fld_of2 cx (by decide +kernel) (He.noat_ok (c.fact 44 (f := .noat "BadText" "word") rfl))) (de_var (i := 7) rfl (by trivial))) (da_cons (de_fldE hK (fld_of cx (by decide +kernel)) (de_var (i := 8) rfl (by trivial))) (da_cons (de_fldE hK (fld_of cx (by decide +kernel)) (de_var (i := 9) rfl (by trivial))) (da_cons (de_fldE hK (fld_of cx (by decide +kernel)) (de_var (i := 10) rfl (by trivial))) da_nil)))))))))
 (dss_cons (ds_if (dt_cmp (dop_ne hK (hu64 hu)) (de_callB (dc_reprF (isy_2 kx) hK hgd hu) rfl g_repr bt_repr (da_cons (de_var (i := 11) rfl (by trivial)) da_nil)) (de_callB (dc_reprF (isy_2 kx) hK hgd hu) rfl g_repr bt_repr (da_cons (de_fz (df_lst (da_cons (de_var (i := 0) rfl (by trivial)) (da_cons (de_var (i := 1) rfl (by trivial)) (da_cons (de_var (i := 0) rfl (by trivial)) (da_cons (de_var (i := 0) rfl (by trivial)) (da_cons (de_var (i := 0) rfl (by trivial)) da_nil))))))) da_nil)) (nomark _))
 (dss_cons (ds_ret de_bl)
 dss_nil)
 dss_nil)
 (dss_cons (ds_set (i := 12) nd rfl (by trivial) (dv_fz (de_fz (df_lst (da_cons (de_fn h__law_marks (Room.mono hr (by decide)) rfl tk (da_cons (de_var (i := 7) rfl (by trivial)) da_nil) hK (fun _ => hst) hT (lq_cons lq_nil)) (da_cons (de_fn h__law_marks (Room.mono hr (by decide)) rfl tk (da_cons (de_var (i := 8) rfl (by trivial)) da_nil) hK (fun _ => hst) hT (lq_cons lq_nil)) (da_cons (de_fn h__law_marks (Room.mono hr (by decide)) rfl tk (da_cons (de_var (i := 9) rfl (by trivial)) da_nil) hK (fun _ => hst) hT (lq_cons lq_nil)) (da_cons (de_fn h__law_marks (Room.mono hr (by decide)) rfl tk (da_cons (de_var (i := 10) rfl (by trivial)) da_nil) hK (fun _ => hst) hT (lq_cons lq_nil)) da_nil))))))))
 (dss_cons (ds_if (dt_cmp (dop_ne hK (hu64 hu)) (de_var (i := 12) rfl (by trivial)) (de_fz (df_comp (own := [("_law_k", 4)]) hK rfl nd (di_range2 rfl g_range (da_cons de_int (da_cons de_int da_nil))) (blkOk_by (by rfl)) (fun _ _ _ _ _ D hK hS => have hT := (congrArg Prod.snd hS).trans hT; have hst : D.st = true := (congrArg Prod.fst hS).trans hst; (dg_name (i := 4) nd rfl (by trivial))) (fun _ _ _ _ _ D hK hS => have hT := (congrArg Prod.snd hS).trans hT; have hst : D.st = true := (congrArg Prod.fst hS).trans hst; pts0) (fun _ _ _ _ _ D hK hS => have hT := (congrArg Prod.snd hS).trans hT; have hst : D.st = true := (congrArg Prod.fst hS).trans hst; (de_fz (df_comp (own := [("_law_n", 15)]) hK rfl nd (di_range1 rfl g_range (da_cons de_int da_nil)) (blkOk_by (by rfl)) (fun _ _ _ _ _ D hK hS => have hT := (congrArg Prod.snd hS).trans hT; have hst : D.st = true := (congrArg Prod.fst hS).trans hst; (dg_name (i := 15) nd rfl (by trivial))) (fun _ _ _ _ _ D hK hS => have hT := (congrArg Prod.snd hS).trans hT; have hst : D.st = true := (congrArg Prod.fst hS).trans hst; pts0) (fun _ _ _ _ _ D hK hS => have hT := (congrArg Prod.snd hS).trans hT; have hst : D.st = true := (congrArg Prod.fst hS).trans hst; (de_cmp (dop_eq hK (hu64 hu)) (de_var (i := 15) rfl (by trivial)) (de_var (i := 4) rfl (by trivial)) (nomark _))) q_yes (q_bin q_var q_var) (by decide)))) q_yes (q_fz (q_comp (q_ir1 (q_cons q_c q_nil)))) (by decide))) (nomark _))
 (dss_cons (ds_ret de_bl)
 dss_nil)
 dss_nil)
 (dss_cons (ds_set (i := 13) nd rfl (by trivial) (dv_fz (de_fz (df_lst (da_cons (de_fn h__law_kinds_of (Room.mono hr (by decide)) rfl tk (da_cons (de_var (i := 7) rfl (by trivial)) da_nil) hK (fun _ => hst) hT (lq_cons lq_nil)) (da_cons (de_fn h__law_kinds_of (Room.mono hr (by decide)) rfl tk (da_cons (de_var (i := 8) rfl (by trivial)) da_nil) hK (fun _ => hst) hT (lq_cons lq_nil)) (da_cons (de_fn h__law_kinds_of (Room.mono hr (by decide)) rfl tk (da_cons (de_var (i := 9) rfl (by trivial)) da_nil) hK (fun _ => hst) hT (lq_cons lq_nil)) (da_cons (de_fn h__law_kinds_of (Room.mono hr (by decide)) rfl tk (da_cons (de_var (i := 10) rfl (by trivial)) da_nil) hK (fun _ => hst) hT (lq_cons lq_nil)) da_nil))))))))
 (dss_cons (ds_setLc (i := 14) (own := [("_law_n", 15)]) hK rfl nd rfl rfl (sw_true rfl rfl rfl rfl) (di_range2 rfl g_range (da_cons de_int (da_cons de_int da_nil))) (blkOk_by (by rfl)) (fun _ _ _ _ _ D hK hS => have hT := (congrArg Prod.snd hS).trans hT; have hst : D.st = true := (congrArg Prod.fst hS).trans hst; (dg_name (i := 15) nd rfl (by trivial))) (fun _ _ _ _ _ D hK hS => have hT := (congrArg Prod.snd hS).trans hT; have hst : D.st = true := (congrArg Prod.fst hS).trans hst; pts0) (fun _ _ _ _ _ D hK hS => have hT := (congrArg Prod.snd hS).trans hT; have hst : D.st = true := (congrArg Prod.fst hS).trans hst; (de_fz (df_comp (own := [("_law_k", 4)]) hK rfl nd (di_range2 rfl g_range (da_cons de_int (da_cons de_int da_nil))) (blkOk_by (by rfl)) (fun _ _ _ _ _ D hK hS => have hT := (congrArg Prod.snd hS).trans hT; have hst : D.st = true := (congrArg Prod.fst hS).trans hst; (dg_name (i := 4) nd rfl (by trivial))) (fun _ _ _ _ _ D hK hS => have hT := (congrArg Prod.snd hS).trans hT; have hst : D.st = true := (congrArg Prod.fst hS).trans hst; pts0) (fun _ _ _ _ _ D hK hS => have hT := (congrArg Prod.snd hS).trans hT; have hst : D.st = true := (congrArg Prod.fst hS).trans hst; (de_cmp (dop_eq hK (hu64 hu)) (de_var (i := 4) rfl (by trivial)) (de_var (i := 15) rfl (by trivial)) (nomark _))) q_yes (q_bin q_var q_var) (by decide)))) q_yes (q_fz (q_comp (q_ir2 (q_cons q_c (q_cons q_c q_nil))))) (by decide))
 (dss_frz 14 (dss_cons (ds_ret (de_cmp (dop_eq hK (hu64 hu)) (de_var (i := 13) rfl (by trivial)) (de_fz (df_comp (own := [("_law_n", 15), ("_law_row", 16)]) hK rfl nd (di_zipR hK rfl g_zip rfl g_range de_int de_int (de_var (i := 14) rfl (by trivial))) (blkOk_by (by rfl)) (fun _ _ _ _ _ D hK hS => have hT := (congrArg Prod.snd hS).trans hT; have hst : D.st = true := (congrArg Prod.fst hS).trans hst; (dg_tup hK rfl (dgs_cons (dg_name (i := 15) nd rfl (by trivial)) (dgs_cons (dg_name (i := 16) nd rfl (by trivial)) dgs_nil)))) (fun _ _ _ _ _ D hK hS => have hT := (congrArg Prod.snd hS).trans hT; have hst : D.st = true := (congrArg Prod.fst hS).trans hst; pts0) (fun _ _ _ _ _ D hK hS => have hT := (congrArg Prod.snd hS).trans hT; have hst : D.st = true := (congrArg Prod.fst hS).trans hst; (de_op (dop_plus hK (dop_add hK)) (de_fz (df_lst (da_cons (de_cmp (dop_eq hK (hu64 hu)) (de_var (i := 15) rfl (by trivial)) de_int (nomark _)) da_nil))) (de_var (i := 16) rfl (by trivial)))) q_yes (q_bin (q_fz (q_lst (q_cons (q_bin q_var q_c) q_nil))) q_var) (by decide))) (nomark _)))
 dss_nil)))))))))))))))
def B_law : SM :=
 (sSeq (sSet 1 (vFz (eCall true F__law_begin [] (aCons (eVar 0) aNil))))
 (sSeq (sSet 2 (vFz (eFz (fLst (aCons (eC .none) (aCons (eC (.int 0)) (aCons (eUn gNeg (eC (.int 1))) (aCons (eBin gPow (eC (.int 10)) (eC (.int 30))) (aCons (eC (.str "")) (aCons (eC (.str "x y")) (aCons (eTup aNil) (aCons (eTup (aCons (eC (.str "a")) (aCons (eC (.int 0)) aNil))) (aCons (eFz (fLst (aCons (eC (.int 1)) aNil))) (aCons (eFzD kNew) (aCons (eC (.bool true)) (aCons (eTup (aCons (eTup (aCons (eC (.int 0)) (aCons (eC (.int 0)) aNil))) (aCons (eTup (aCons (eC (.str "w")) aNil)) aNil))) aNil))))))))))))))))
 (sSeq (sFor (iR1 (aCons (eBin gPlus (eC (.int 3)) (eOf gMinA (aCons (eC (.int 4)) (aCons (eOf gLen (aCons (eVar 0) aNil)) aNil)))) aNil)) (setFz 3)
 (sSeq (sIf (tNot (tVal (eCallL F__law_right (aCons (eCall true F__law_of [] (aCons (eVar 1) (aCons (eVar 2) aNil))) (aCons (eCall true F__law_of [] (aCons (eVar 1) (aCons (eVar 2) aNil))) aNil)))))
 (sSeq (sRet (eC (.bool false)))
 sNext)
 sNext)
 sNext))
 (sSeq (sRet (eC (.bool true)))
 sNext))))
def F_law : FM := runB 4 B_law
abbrev fg_law_1 : GM := (setFz 3)
abbrev fb_law_1 : SM := (sSeq (sIf (tNot (tVal (eCallL F__law_right (aCons (eCall true F__law_of [] (aCons (eVar 1) (aCons (eVar 2) aNil))) (aCons (eCall true F__law_of [] (aCons (eVar 1) (aCons (eVar 2) aNil))) aNil)))))
 (sSeq (sRet (eC (.bool false)))
 sNext)
 sNext)
 sNext)
abbrev N_law : List Str := ["_law_script", "_law_state", "_law_some", "_law_turn"]
theorem sc_law : FnScope N_law ["_law_script"] (defScope (top 35)) := ⟨rfl, rfl, rfl, by decide +kernel, rfl, by decide +kernel, by decide +kernel⟩
theorem law_at {P : Program} {w : World} {K : PySem.W.Frag} {mg : Str → Option Value} {h : Heap} (KX : K.In h) (G : h.Ns mainGlobals mg) (c : He.SaysD fa fn K) (cx : SaysE P K mg xs tf) (kx : isyB xcs xqo xqb K = true) : ∃ fd : FuncData, (∀ (s : Shared) (u : Value), BindsTo s fd ⟨[u], []⟩ [("_law_script", u)]) ∧ mg "law" = some (.ref (He.ga K "law")) ∧ ∀ base : Heap, TBs K base mg tf → FnG P w K mg base (L2.CX P w) 4 (He.ga K "law") fd ["_law_script"] (callP K (true, (TTof K tf)) F_law 1) := by
  have g_len := He.free_ok KX G (c.fact 5 (f := .free "len") rfl)
  have g_min := He.free_ok KX G (c.fact 47 (f := .free "min") rfl)
  have g_range := He.free_ok KX G (c.fact 43 (f := .free "range") rfl)
  obtain ⟨fd, Fd⟩ := c.def_ 8 (d := d_law) rfl
  have gl := He.glo_ok KX G (c.fact 46 (f := .glo "law") rfl)
  refine ⟨fd, fun s v => FunD.bindsA (ps := ["_law_script"]) Fd (fun _ _ _ _ _ _ us hl => match us, hl with | [_], _ => rfl) s [v] rfl, gl, fun base htb => ?_⟩
  have h__law_begin : Has P w K mg base _ _ _ _ := ok__law_begin KX G c htb cx kx
  have h__law_of : Has P w K mg base _ _ _ _ := ok__law_of KX G c htb cx kx
  have h__law_right : HasG P w K mg base _ _ _ _ := ok__law_right KX G c htb cx kx
  have nd := sc_law.nd
  refine FnG.imp (fn_okG ("law", none) rfl Fd sc_law fun cdv hc A outer s H E hgd hr Wx tk D hK hst hT => ?_) (fun _ _ _ _ h => .inl h)
  replace hst : D.st = true := hst rfl
  have hu := DL.hu_of hr
  have hp : PassesOwn (model P w) (A.deeper (envOfC "law" (defScope (top 35)) s.heap.objs.size (He.ga K "law") cdv)) (envOfC "law" (defScope (top 35)) s.heap.objs.size (He.ga K "law") cdv) (cxOf (L2.CX P w) P w K mg base N_law "law" (defScope (top 35)) (He.ga K "law") cdv A outer s H E).xe := passes_of (X := cxOf (L2.CX P w) P w K mg base N_law "law" (defScope (top 35)) (He.ga K "law") cdv A outer s H E) rfl
  exact (dss_cons (ds_set (i := 1) nd rfl (by trivial) (dv_fz (de_fn h__law_begin (Room.mono hr (by decide)) rfl tk (da_cons (de_var (i := 0) rfl (by trivial)) da_nil) hK (fun _ => hst) hT (lq_cons lq_nil))))
 (dss_cons (ds_set (i := 2) nd rfl (by trivial) (dv_fz (de_fz (df_lst (da_cons de_non (da_cons de_int (da_cons (de_neg de_int) (da_cons (de_op dop_pow de_int de_int) (da_cons de_str (da_cons de_str (da_cons (de_tup da_nil) (da_cons (de_tup (da_cons de_str (da_cons de_int da_nil))) (da_cons (de_fz (df_lst (da_cons de_int da_nil))) (da_cons (de_fzD dd_new) (da_cons de_bl (da_cons (de_tup (da_cons (de_tup (da_cons de_int (da_cons de_int da_nil))) (da_cons (de_tup (da_cons de_str da_nil)) da_nil))) da_nil))))))))))))))))
 (dss_cons (ds_for hp rfl (di_range1 rfl g_range (da_cons (de_op (dop_plus hK (dop_add hK)) de_int (de_callB (dc_minA hK rfl hu) rfl g_min bt_min (da_cons de_int (da_cons (de_callB (dc_len hK) rfl g_len bt_len (da_cons (de_var (i := 0) rfl (by trivial)) da_nil)) da_nil)))) da_nil)) (dg_name (i := 3) nd rfl (by trivial))
 (dss_cons (ds_if (dt_not (dt_val (de_fnLG h__law_right hgd (Room.mono hr (by decide)) rfl tk (da_cons (de_fn h__law_of (Room.mono hr (by decide)) rfl tk (da_cons (de_var (i := 1) rfl (by trivial)) (da_cons (de_var (i := 2) rfl (by trivial)) da_nil)) hK (fun _ => hst) hT (lq_cons (lq_cons lq_nil))) (da_cons (de_fn h__law_of (Room.mono hr (by decide)) rfl tk (da_cons (de_var (i := 1) rfl (by trivial)) (da_cons (de_var (i := 2) rfl (by trivial)) da_nil)) hK (fun _ => hst) hT (lq_cons (lq_cons lq_nil))) da_nil)) hK hT (lq_cons (lq_cons lq_nil)))))
 (dss_cons (ds_ret de_bl)
 dss_nil)
 dss_nil)
 dss_nil))
 (dss_cons (ds_ret de_bl)
 dss_nil))))
def ts : List Tb := []
end G
namespace G
open PySem PySem.Spec PyProof.Rows L2 DL
theorem mixed_run (c k : Int) (h0 : 0 ≤ k) (h1 : k ≤ 1000000) : ∃ v : Int, F__law_mixed [.int c, .int k] [] = .ok (.int v) ⟨[], []⟩ ∧ 0 ≤ v ∧ v < 2147483629 := by
  have c0 : 0 ≤ c % 2147483647 := Int.emod_nonneg _ (by decide)
  have c1 : c % 2147483647 < 2147483647 := Int.emod_lt_of_pos _ (by decide)
  have kk : 2 * k * k ≤ 2000000000000 := by
    have : k * k ≤ 1000000 * 1000000 := Int.mul_le_mul h1 h1 h0 (by decide)
    have e : 2 * k * k = 2 * (k * k) := Int.mul_assoc ..
    omega
  have kk0 : 0 ≤ 2 * k * k := Int.mul_nonneg (by omega) h0
  refine ⟨(((c % 2147483647) * (48271 + 2 * k * k) + 69621 * k + 11) % 2147483647 * 69621) % 2147483629, ?_, Int.emod_nonneg _ (by decide), Int.emod_lt_of_pos _ (by decide)⟩
  have d0 : 0 ≤ ((c % 2147483647) * (48271 + 2 * k * k) + 69621 * k + 11) % 2147483647 := Int.emod_nonneg _ (by decide)
  have d1 : ((c % 2147483647) * (48271 + 2 * k * k) + 69621 * k + 11) % 2147483647 < 2147483647 := Int.emod_lt_of_pos _ (by decide)
  have main : (eBin gModI (eBin gTimes (eBin gModI (eBin gPlus (eBin gPlus (eBin gTimes (eVar 0) (eBin gPlus (eC (.int 48271)) (eBin gTimes (eBin gTimes (eC (.int 2)) (eVar 1)) (eVar 1)))) (eBin gTimes (eC (.int 69621)) (eVar 1))) (eC (.int 11))) (eC (.int 2147483647))) (eC (.int 69621))) (eC (.int 2147483629))) ⟨[some (.fz (.int (c % 2147483647))), some (.fz (.int k))], []⟩ = .ok (.int ((((c % 2147483647) * (48271 + 2 * k * k) + 69621 * k + 11) % 2147483647 * 69621) % 2147483629)) ⟨[some (.fz (.int (c % 2147483647))), some (.fz (.int k))], []⟩ :=
    eBin_ok (eBin_ok (eBin_ok (eBin_ok (eBin_ok (eBin_ok rfl (eBin_ok rfl (eBin_ok (eBin_ok rfl rfl (gTimes_ok (by decide) (by decide) h0 (by omega))) rfl (gTimes_ok (by omega) (by omega) h0 (by omega))) gPlus_ok) (gTimes_ok c0 (by omega) (by omega) (by omega))) (eBin_ok rfl rfl (gTimes_ok (by decide) (by decide) h0 (by omega))) gPlus_ok) rfl gPlus_ok) rfl (gMod_ok (by decide))) rfl (gTimes_ok d0 (by omega) (by decide) (by decide))) rfl (gMod_ok (by decide))
  unfold F__law_mixed runB B__law_mixed
  have e1 : (sSet 0 (vFz (eBin gModI (eOf gInt (aCons (eVar 0) aNil)) (eC (.int 2147483647))))) ⟨[some (.fz (.int c)), some (.fz (.int k))], []⟩ = .ok .next ⟨[some (.fz (.int (c % 2147483647))), some (.fz (.int k))], []⟩ := rfl
  show (match sSeq (sSet 0 _) _ ⟨[some (.fz (.int c)), some (.fz (.int k))], []⟩ with
    | .ok (.ret w) m => R.ok w ⟨[], m.cells⟩
    | .ok .next m => .ok .none ⟨[], m.cells⟩
    | .ok .brk _ => .bad
    | .ok .cont _ => .bad
    | .err c fs m => .err c fs ⟨[], m.cells⟩
    | .bad => .bad) = _
  have e2 : (sSeq (sSet 0 (vFz (eBin gModI (eOf gInt (aCons (eVar 0) aNil)) (eC (.int 2147483647))))) (sSeq (sRet (eBin gModI (eBin gTimes (eBin gModI (eBin gPlus (eBin gPlus (eBin gTimes (eVar 0) (eBin gPlus (eC (.int 48271)) (eBin gTimes (eBin gTimes (eC (.int 2)) (eVar 1)) (eVar 1)))) (eBin gTimes (eC (.int 69621)) (eVar 1))) (eC (.int 11))) (eC (.int 2147483647))) (eC (.int 69621))) (eC (.int 2147483629)))) sNext)) ⟨[some (.fz (.int c)), some (.fz (.int k))], []⟩ = .ok (.ret (.int ((((c % 2147483647) * (48271 + 2 * k * k) + 69621 * k + 11) % 2147483647 * 69621) % 2147483629))) ⟨[some (.fz (.int (c % 2147483647))), some (.fz (.int k))], []⟩ := by
    show (sSeq (sRet _) sNext) ⟨[some (.fz (.int (c % 2147483647))), some (.fz (.int k))], []⟩ = _
    unfold sSeq sRet
    rw [main]
    rfl
  rw [e2]
theorem draw_run {k : Nat} {cells : List Cell} {cs ls : List Int} {a r many : Int} (hk : cells[k]? = some (.draw cs ls a r)) (hcs : 0 < cs.length) (hl : ls.length = cs.length) (ha : 0 ≤ a) (ha2 : a ≤ 900000) (hm : 0 < many) (hm2 : many < 1000000000000) :
    ∃ (d : Int) (ls' : List Int), F__law_draw [hnd k, .int many] cells = .ok (.int d) ⟨[], cells.set k (.draw cs ls' (a + 1) r)⟩ ∧ 0 ≤ d ∧ d < many ∧ ls'.length = cs.length := by
  have hkl : k < cells.length := by
    rcases Nat.lt_or_ge k cells.length with h | h
    · exact h
    · rw [List.getElem?_eq_none h] at hk; cases hk
  have hcl : (0 : Int) < (cs.length : Int) := by omega
  have p0 : 0 ≤ a % (cs.length : Int) := Int.emod_nonneg _ (by omega)
  have p1 : a % (cs.length : Int) < (cs.length : Int) := Int.emod_lt_of_pos _ hcl
  obtain ⟨x, hx⟩ := atI_ok (xs := ls) p0 (by rw [hl]; exact p1)
  obtain ⟨c, hc⟩ := atI_ok (xs := cs) p0 p1
  -- the states on the way
  generalize hc2 : cells.set k (.draw cs ls (a + 1) r) = cells2
  have hk2 : cells2[k]? = some (.draw cs ls (a + 1) r) := by rw [← hc2]; exact List.getElem?_set_self hkl
  have s1 : sSet 2 (vFz (eCAt 0)) ⟨[some (.fz (hnd k)), some (.fz (.int many)), none, none, none, none], cells⟩ = .ok .next ⟨[some (.fz (hnd k)), some (.fz (.int many)), some (.fz (.int a)), none, none, none], cells⟩ := sSet_ok (eCAt_ok (cellAt_eq rfl hk))
  have s2 : sCAt 0 (eBin gPlus (eVar 2) (eC (.int 1))) ⟨[some (.fz (hnd k)), some (.fz (.int many)), some (.fz (.int a)), none, none, none], cells⟩ = .ok .next ⟨[some (.fz (hnd k)), some (.fz (.int many)), some (.fz (.int a)), none, none, none], cells2⟩ := by
    rw [← hc2]
    exact sCAt_ok (eBin_ok (eVar_ok rfl) eC_ok gPlus_ok) (cellAt_eq rfl hk)
  have s3 : sSet 3 (vFz (eBin gModI (eOf gInt (aCons (eVar 2) aNil)) (eCLen 0))) ⟨[some (.fz (hnd k)), some (.fz (.int many)), some (.fz (.int a)), none, none, none], cells2⟩ = .ok .next ⟨[some (.fz (hnd k)), some (.fz (.int many)), some (.fz (.int a)), some (.fz (.int (a % (cs.length : Int)))), none, none], cells2⟩ :=
    sSet_ok (eBin_ok (eOf_ok (aCons_ok (eVar_ok rfl) aNil_ok) rfl) (eCLen_ok (cellAt_eq rfl hk2)) (gMod_ok hcl))
  have s4 : sSet 4 (vFz (eCLeft 0 (eVar 3))) ⟨[some (.fz (hnd k)), some (.fz (.int many)), some (.fz (.int a)), some (.fz (.int (a % (cs.length : Int)))), none, none], cells2⟩ = .ok .next ⟨[some (.fz (hnd k)), some (.fz (.int many)), some (.fz (.int a)), some (.fz (.int (a % (cs.length : Int)))), some (.fz (.int x)), none], cells2⟩ :=
    sSet_ok (eCLeft_ok (cellAt_eq rfl hk2) (eVar_ok rfl) hx)
  by_cases hpos : 0 < x
  · refine ⟨x % many, ls.set (a % (cs.length : Int)).toNat (x / many), ?_, Int.emod_nonneg _ (by omega), Int.emod_lt_of_pos _ hm, by rw [List.length_set]; exact hl⟩
    have s5 : tVal (eBin gGt (eVar 4) (eC (.int 0))) ⟨[some (.fz (hnd k)), some (.fz (.int many)), some (.fz (.int a)), some (.fz (.int (a % (cs.length : Int)))), some (.fz (.int x)), none], cells2⟩ = .ok true ⟨[some (.fz (hnd k)), some (.fz (.int many)), some (.fz (.int a)), some (.fz (.int (a % (cs.length : Int)))), some (.fz (.int x)), none], cells2⟩ :=
      tVal_ok (eBin_ok (eVar_ok rfl) eC_ok (by show some (PyData.bool (decide (0 < x))) = _; rw [decide_eq_true hpos]))
    have s6 : sCLeft 0 (eVar 3) (eBin gDivI (eVar 4) (eVar 1)) ⟨[some (.fz (hnd k)), some (.fz (.int many)), some (.fz (.int a)), some (.fz (.int (a % (cs.length : Int)))), some (.fz (.int x)), none], cells2⟩ = .ok .next ⟨[some (.fz (hnd k)), some (.fz (.int many)), some (.fz (.int a)), some (.fz (.int (a % (cs.length : Int)))), some (.fz (.int x)), none], cells.set k (.draw cs (ls.set (a % (cs.length : Int)).toNat (x / many)) (a + 1) r)⟩ := by
      have e := sCLeft_ok (m := ⟨[some (.fz (hnd k)), some (.fz (.int many)), some (.fz (.int a)), some (.fz (.int (a % (cs.length : Int)))), some (.fz (.int x)), none], cells2⟩) (i := 0) (b := eVar 3) (e := eBin gDivI (eVar 4) (eVar 1)) (eBin_ok (eVar_ok rfl) (eVar_ok rfl) (gDiv_ok hm (by omega))) (eVar_ok rfl) (cellAt_eq rfl hk2) (ixN_ok p0 (by rw [hl]; exact p1))
      rw [e, ← hc2]
      simp [List.set_set]
    refine runB_ret (m := ⟨[some (.fz (hnd k)), some (.fz (.int many)), some (.fz (.int a)), some (.fz (.int (a % (cs.length : Int)))), some (.fz (.int x)), none], cells.set k (.draw cs (ls.set (a % (cs.length : Int)).toNat (x / many)) (a + 1) r)⟩) ?_
    exact (sSeq_next s1).trans ((sSeq_next s2).trans ((sSeq_next s3).trans ((sSeq_next s4).trans (sSeq_ret ((sIf_t s5).trans ((sSeq_next s6).trans (sSeq_ret (sRet_ok (eBin_ok (eOf_ok (aCons_ok (eVar_ok rfl) aNil_ok) rfl) (eVar_ok rfl) (gMod_ok hm))))))))))
  · obtain ⟨v1, e1, v10, v11⟩ := mixed_run c a ha (by omega)
    obtain ⟨v2, e2, v20, v21⟩ := mixed_run v1 (40 + a) (by omega) (by omega)
    obtain ⟨v3, e3, v30, v31⟩ := mixed_run v2 (7 + a) (by omega) (by omega)
    refine ⟨((v2 * 2147483647 + v3) / 64) % many, ls, ?_, Int.emod_nonneg _ (by omega), Int.emod_lt_of_pos _ hm, hl⟩
    have s5 : tVal (eBin gGt (eVar 4) (eC (.int 0))) ⟨[some (.fz (hnd k)), some (.fz (.int many)), some (.fz (.int a)), some (.fz (.int (a % (cs.length : Int)))), some (.fz (.int x)), none], cells2⟩ = .ok false ⟨[some (.fz (hnd k)), some (.fz (.int many)), some (.fz (.int a)), some (.fz (.int (a % (cs.length : Int)))), some (.fz (.int x)), none], cells2⟩ :=
      tVal_ok (eBin_ok (eVar_ok rfl) eC_ok (by show some (PyData.bool (decide (0 < x))) = _; rw [decide_eq_false hpos]))
    have s6 : sSet 5 (vFz (eCall false F__law_mixed [] (aCons (eCall false F__law_mixed [] (aCons (eCCell 0 (eVar 3)) (aCons (eVar 2) aNil))) (aCons (eBin gPlus (eC (.int 40)) (eVar 2)) aNil)))) ⟨[some (.fz (hnd k)), some (.fz (.int many)), some (.fz (.int a)), some (.fz (.int (a % (cs.length : Int)))), some (.fz (.int x)), none], cells2⟩ = .ok .next ⟨[some (.fz (hnd k)), some (.fz (.int many)), some (.fz (.int a)), some (.fz (.int (a % (cs.length : Int)))), some (.fz (.int x)), some (.fz (.int v2))], cells2⟩ :=
      sSet_ok (eCall_okF (aCons_ok (eCall_okF (aCons_ok (eCCell_ok (cellAt_eq rfl hk2) (eVar_ok rfl) hc) (aCons_ok (eVar_ok rfl) aNil_ok)) e1) (aCons_ok (eBin_ok eC_ok (eVar_ok rfl) gPlus_ok) aNil_ok)) e2)
    rw [hc2]
    refine runB_ret (m := ⟨[some (.fz (hnd k)), some (.fz (.int many)), some (.fz (.int a)), some (.fz (.int (a % (cs.length : Int)))), some (.fz (.int x)), some (.fz (.int v2))], cells2⟩) ?_
    refine (sSeq_next s1).trans ((sSeq_next s2).trans ((sSeq_next s3).trans ((sSeq_next s4).trans ?_)))
    have e5 : sIf (tVal (eBin gGt (eVar 4) (eC (.int 0)))) (sSeq (sCLeft 0 (eVar 3) (eBin gDivI (eVar 4) (eVar 1))) (sSeq (sRet (eBin gModI (eOf gInt (aCons (eVar 4) aNil)) (eVar 1))) sNext)) sNext ⟨[some (.fz (hnd k)), some (.fz (.int many)), some (.fz (.int a)), some (.fz (.int (a % (cs.length : Int)))), some (.fz (.int x)), none], cells2⟩ = .ok .next ⟨[some (.fz (hnd k)), some (.fz (.int many)), some (.fz (.int a)), some (.fz (.int (a % (cs.length : Int)))), some (.fz (.int x)), none], cells2⟩ := by
      rw [sIf_f s5]
      rfl
    refine (sSeq_next e5).trans ((sSeq_next s6).trans ?_)
    refine sSeq_ret (sRet_ok (eBin_ok (eBin_ok (eOf_ok (aCons_ok (eBin_ok (eBin_ok (eVar_ok rfl) eC_ok (gTimes_ok v20 (by omega) (by decide) (by decide))) (eCall_okF (aCons_ok (eVar_ok rfl) (aCons_ok (eBin_ok eC_ok (eVar_ok rfl) gPlus_ok) aNil_ok)) e3) gPlus_ok) aNil_ok) rfl) eC_ok (gDiv_ok (by decide) (by decide))) (eVar_ok rfl) (gMod_ok hm)))
theorem ints_lay : ∀ ns : List Int, PyData.canLayAll0 (ns.map PyData.int) = true
  | [] => rfl
  | n :: ns => by
    show PyData.canLayAll0 (PyData.int n :: ns.map PyData.int) = true
    rw [PyData.canLayAll0, ints_lay ns]
    rfl
theorem gNe_nil (ns : List Int) : gNe (.list (ns.map .int)) (.list []) = some (.bool (!ns.isEmpty)) := by
  have e : eqW (.list (ns.map PyData.int)) (.list []) = some ns.isEmpty := by
    show (if ((PyData.list (ns.map PyData.int)).canLay0 && (PyData.list []).canLay0 && shallow (.list (ns.map PyData.int)) (.list [])) = true then some (PyData.eqv (.list (ns.map PyData.int)) (.list [])) else none) = _
    have h1 : (PyData.list (ns.map PyData.int)).canLay0 = true := by simpa [PyData.canLay0] using ints_lay ns
    have h2 : shallow (.list (ns.map PyData.int)) (.list []) = true := by
      unfold shallow
      rw [Bool.or_eq_true]
      right
      decide
    rw [h1, h2, if_pos (by decide)]
    cases ns with
    | nil => simp [PyData.eqv, PyData.eqvAll]
    | cons n ns => simp [PyData.eqv, PyData.eqvAll]
  unfold gNe
  rw [e]
  rfl
def leftsOf (cs : List Int) : List Int := cs.map fun x => if (1000000000000000000 : Int) ≤ x then x else 0
def elB : EM := eIf (tVal (eBin gGe (eVar 2) (eBin gPow (eC (.int 10)) (eC (.int 18))))) (eVar 2) (eC (.int 0))
theorem el_run (a b : Option Sl) (x : Int) (cells : List Cell) : elB ⟨[a, b, some (.fz (.int x))], cells⟩ = .ok (.int (if (1000000000000000000 : Int) ≤ x then x else 0)) ⟨[a, b, some (.fz (.int x))], cells⟩ := by
  have e : tVal (eBin gGe (eVar 2) (eBin gPow (eC (.int 10)) (eC (.int 18)))) ⟨[a, b, some (.fz (.int x))], cells⟩ = .ok (decide ((1000000000000000000 : Int) ≤ x)) ⟨[a, b, some (.fz (.int x))], cells⟩ :=
    tVal_ok (eBin_ok (eVar_ok rfl) (eBin_ok (w := .int 1000000000000000000) eC_ok eC_ok rfl) rfl)
  unfold elB eIf
  rw [e]
  by_cases h : (1000000000000000000 : Int) ≤ x
  · show (if decide ((1000000000000000000 : Int) ≤ x) = true then _ else _) = _
    rw [decide_eq_true h, if_pos rfl, if_pos h]
    rfl
  · show (if decide ((1000000000000000000 : Int) ≤ x) = true then _ else _) = _
    rw [decide_eq_false h, if_neg (by decide), if_neg h]
    rfl
theorem comp_run (a b : Option Sl) (cells : List Cell) : ∀ cs : List Int, compGo (setFz 2) tYesM elB [a, b, none] (cs.map PyData.int) cells = some ((leftsOf cs).map PyData.int, cells)
  | [] => rfl
  | x :: cs => by
    show (match elB ⟨[a, b, some (.fz (.int x))], cells⟩ with
      | .ok y m4 => match compGo (setFz 2) tYesM elB [a, b, none] (cs.map PyData.int) m4.cells with
        | some (ys, cs') => some (y :: ys, cs')
        | none => none
      | _ => none) = _
    rw [el_run]
    show (match compGo (setFz 2) tYesM elB [a, b, none] (cs.map PyData.int) cells with
        | some (ys, cs') => some (_ :: ys, cs')
        | none => none) = _
    rw [comp_run a b cells cs]
    rfl
theorem lfs_ints : ∀ ns : List Int, lf.lfs (ns.map PyData.int) = true
  | [] => rfl
  | n :: ns => by
    show (true && lf.lfs (ns.map PyData.int)) = true
    rw [lfs_ints ns]
    rfl
theorem begin_run (ns : List Int) (hz : ns.length ≤ 63) : ∃ cs : List Int, F__law_begin [.list (ns.map .int)] [] = .ok (hnd 0) ⟨[], [.draw cs (leftsOf cs) 0 0]⟩ ∧ 0 < cs.length ∧ cs.length ≤ 63 ∧ (leftsOf cs).length = cs.length := by
  refine ⟨if ns.isEmpty = true then [0] else ns, ?_, ?_, ?_, by simp [leftsOf]⟩
  · generalize hcs : (if ns.isEmpty = true then [0] else ns) = cs
    have s1 : (sSet 1 (vOw (fIf (tVal (eBin gNe (eVar 0) (eFz (fLst aNil)))) (fOf gListA (aCons (eVar 0) aNil)) (fLst (aCons (eC (.int 0)) aNil))))) ⟨[some (.fz (.list (ns.map .int))), none, none], []⟩ = .ok .next ⟨[some (.fz (.list (ns.map .int))), some (.ow (cs.map .int)), none], []⟩ := by
      have t : tVal (eBin gNe (eVar 0) (eFz (fLst aNil))) ⟨[some (.fz (.list (ns.map .int))), none, none], []⟩ = .ok (!ns.isEmpty) ⟨[some (.fz (.list (ns.map .int))), none, none], []⟩ :=
        tVal_ok (eBin_ok (eVar_ok rfl) (m2 := ⟨[some (.fz (.list (ns.map .int))), none, none], []⟩) (y := .list []) rfl (gNe_nil ns))
      unfold sSet vOw fIf
      rw [t]
      subst hcs
      cases ns with
      | nil => rfl
      | cons n ns => rfl
    have hl : cs.length ≤ 63 := by
      rw [← hcs]
      split
      · decide
      · exact hz
    have s2 : sBegin 1 (fHold 1 (fComp (iS (eVar 1)) (setFz 2) tYesM elB [2])) ⟨[some (.fz (.list (ns.map .int))), some (.ow (cs.map .int)), none], []⟩ = .ok (.ret (hnd 0)) ⟨[none, none, none], [.draw cs (leftsOf cs) 0 0]⟩ := by
      have e1 : fComp (iS (eVar 1)) (setFz 2) tYesM elB [2] ⟨[some (.fz (.list (ns.map .int))), some (.fz (.list (cs.map .int))), none], []⟩ = .ok ((leftsOf cs).map PyData.int) ⟨[some (.fz (.list (ns.map .int))), some (.fz (.list (cs.map .int))), none], []⟩ := by
        show (match compGo (setFz 2) tYesM elB [some (.fz (.list (ns.map .int))), some (.fz (.list (cs.map .int))), none] (cs.map PyData.int) [] with
          | some (ys, cs') => if szOk ys.length = true then R.ok ys ⟨[some (.fz (.list (ns.map .int))), some (.fz (.list (cs.map .int))), none], cs'⟩ else .bad
          | none => .bad) = _
        rw [comp_run]
        show (if szOk ((leftsOf cs).map PyData.int).length = true then _ else _) = _
        rw [if_pos ?_]
        unfold szOk
        refine Nat.ble_eq_true_of_le ?_
        simp [leftsOf]
        omega
      have e2 : fHold 1 (fComp (iS (eVar 1)) (setFz 2) tYesM elB [2]) ⟨[some (.fz (.list (ns.map .int))), some (.ow (cs.map .int)), none], []⟩ = .ok ((leftsOf cs).map PyData.int) ⟨[some (.fz (.list (ns.map .int))), some (.ow (cs.map .int)), none], []⟩ := by
        show (match fComp (iS (eVar 1)) (setFz 2) tYesM elB [2] ⟨[some (.fz (.list (ns.map .int))), some (.fz (.list (cs.map .int))), none], []⟩ with
          | .ok ws m' => if (lf.lfs ws && heldOk [some (.fz (.list (ns.map .int))), some (.ow (cs.map .int)), none] 1 m'.cells) = true then R.ok ws { m' with env := [some (.fz (.list (ns.map .int))), some (.ow (cs.map .int)), none] } else .bad
          | _ => .bad) = _
        rw [e1]
        show (if (lf.lfs ((leftsOf cs).map PyData.int) && _) = true then _ else _) = _
        rw [lfs_ints]
        rfl
      show (R.bind (fHold 1 (fComp (iS (eVar 1)) (setFz 2) tYesM elB [2]) ⟨[some (.fz (.list (ns.map .int))), some (.ow (cs.map .int)), none], []⟩) _) = _
      rw [e2]
      show (match intsOf (cs.map PyData.int), intsOf ((leftsOf cs).map PyData.int) with
        | some a, some b => R.ok (Fl.ret (hnd 0)) (⟨[none, none, none], [.draw a b 0 0]⟩ : MS)
        | _, _ => .bad) = _
      rw [intsOf_map, intsOf_map]
    exact runB_ret (m := ⟨[none, none, none], [.draw cs (leftsOf cs) 0 0]⟩) ((sSeq_next s1).trans (sSeq_ret s2))
  · split
    · decide
    · rename_i h
      cases ns with
      | nil => simp at h
      | cons n ns => simp
  · split
    · decide
    · exact hz
/-- the script's state: so many draws at most -/
def DrawOk (N : Int) (cells : List Cell) : Prop := ∃ cs ls a r, cells = [.draw cs ls a r] ∧ 0 < cs.length ∧ ls.length = cs.length ∧ 0 ≤ a ∧ a ≤ N
theorem DrawOk.mono {N M : Int} {cells : List Cell} (h : DrawOk N cells) (hl : N ≤ M) : DrawOk M cells := by
  obtain ⟨cs, ls, a, r, e, h1, h2, h3, h4⟩ := h
  exact ⟨cs, ls, a, r, e, h1, h2, h3, by omega⟩
theorem run_draw {N many : Int} {cells : List Cell} (h : DrawOk N cells) (hN : N ≤ 900000) (hm : 0 < many) (hm2 : many < 1000000000000) : ∃ (d : Int) (cells' : List Cell), F__law_draw [hnd 0, .int many] cells = .ok (.int d) ⟨[], cells'⟩ ∧ 0 ≤ d ∧ d < many ∧ DrawOk (N + 1) cells' := by
  obtain ⟨cs, ls, a, r, rfl, h1, h2, h3, h4⟩ := h
  obtain ⟨d, ls', e, d0, d1, hl⟩ := draw_run (k := 0) (cells := [.draw cs ls a r]) (many := many) rfl h1 h2 h3 (by omega) hm hm2
  exact ⟨d, _, e, d0, d1, cs, ls', a + 1, r, rfl, h1, hl, by omega, by omega⟩
theorem run_begin (ns : List Int) (hz : ns.length ≤ 63) : ∃ cells, F__law_begin [.list (ns.map .int)] [] = .ok (hnd 0) ⟨[], cells⟩ ∧ DrawOk 0 cells := by
  obtain ⟨cs, hb, h0, h1, hl⟩ := begin_run ns hz
  exact ⟨_, hb, cs, leftsOf cs, 0, 0, rfl, h0, hl, by decide, by decide⟩
end G
namespace G
open PySem PySem.Spec PyProof.Rows L2 DL
local macro_rules
  | `(tactic| simp_all only) => `(tactic| simp_all only [Bool.and_true])
  | `(tactic| simp_all only [$xs:simpLemma,*]) => `(tactic| simp only [DL.eVar_a, DL.eC_a, DL.eBin_a, DL.tVal_a, DL.tAnd_a, DL.tOr_a, DL.tNot_a, DL.eAnd_a, DL.eOr_a, DL.eNot_a, DL.eIf_a, DL.aNil_a, DL.aCons_a, DL.aStar_a, DL.eTup_a, DL.fLst_a, DL.eFz_a, DL.eOf_a, DL.fOf_a, DL.oNone_a, DL.oSome_a, DL.eIsi_a, DL.fBin_a, DL.iR1_a, DL.iR2_a, DL.iEn_a, DL.iZp_a, DL.fComp_a, DL.tYesM_a, DL.vFz_a, DL.vOw_a, DL.vOd_a, DL.vOn_a, DL.sNext_a, DL.sSeq_a, DL.sDrop_a, DL.sRet_a, DL.sIf_a, DL.sAsg_a, DL.sSet_a, DL.sFor_a, DL.sWhile_a, DL.eOwn_a, DL.eExtF_a, DL.eIxO_a, DL.eChain_a, DL.fComp2_a, DL.kNew_a, DL.eFzD_a, DL.kComp_a, DL.kComp2_a, DL.eUpdF_a, DL.iS_a, DL.iVs_a, DL.iIt_a, DL.eCut_a, DL.eGet1_a, DL.eGet2_a, DL.eCAt_a, DL.eCLen_a, DL.eCCell_a, DL.eCLeft_a, DL.sCAt_a, DL.sCLeft_a, DL.fIf_a, DL.eUn_a, DL.sFrz_a, DL.fRg1_a, DL.fRg2_a, DL.fSortN_a, DL.kDict_a, DL.kDictN_a, DL.eIdx_a, DL.eTr1_a, DL.eHold_a, DL.fHold_a, DL.tHold_a, DL.sPar_a, DL.sForN_a, DL.eTabGet_a, DL.setFz_a, DL.gsNil_a, DL.gsCons_a, DL.tupW_t, DL.gSetI_a, DL.gSetD_a, DL.gSetN_a, DL.bind_ok, DL.opt_some, DL.eCallF_a, DL.eCallT_a, List.getElem?_cons_zero, List.getElem?_cons_succ, List.set_cons_zero, List.set_cons_succ, Bool.false_eq_true, if_true, if_false, Bool.not_true, Bool.not_false, reduceIte, List.cons_append, List.nil_append, List.map_cons, List.map_nil, List.length_cons, List.length_nil, Nat.reduceAdd, Nat.reduceSub, List.replicate, DL.ownFree, List.all_cons, List.all_nil, DL.Sl.isOwn, DL.wipeE, DL.io_l, DL.io_t, DL.wo_l, DL.wo_t, DL.gLen_tup, DL.gLen_lst, DL.gTuple_lst, DL.gTuple_tup, DL.szOk_0, DL.szOk_1, DL.szOk_2, DL.szOk_3, DL.szOk_4, Bool.and_true, Bool.true_and, Bool.and_false, Bool.false_and, Bool.true_or, Bool.false_or, Bool.or_true, Bool.or_false, reduceCtorEq, DL.ownAt, DL.frW, DL.ownN, DL.putE, DL.evVs, DL.vb_b, DL.andK_b, DL.orK_b, DL.notK_b, DL.chn_b, DL.ite_andW, DL.ite_orW, DL.ite_andT, DL.ite_orT, DL.isi_tt, DL.isi_ii, DL.isi_ib, DL.tyN_tup, DL.tyN_int, Option.map_some, Option.map_none, DL.ix_Q0, DL.ix_Q1, DL.ix_Q2, DL.ix_F0, DL.ix_F1, DL.ix_F2, DL.ix_F3, DL.tup_Q, DL.tup_F, DL.wo_L, DL.wo_T, DL.wo_Fs, DL.io_L, DL.io_T, DL.io_Fs, DL.len_L, DL.len_T, DL.len_Fs, DL.len_Q, DL.len_F, DL.ty_L, DL.ty_T, DL.ty_Fs, DL.ty_Q, DL.ty_F, DL.tuple_L, DL.tuple_T, DL.tuple_Fs, DL.gLe_int, DL.gLt_int, DL.gGe_int, DL.gGt_int, DL.gEq_int, DL.gNe_int, DL.gPlus_int, DL.gSub_int, DL.gInA_L, DL.gNotInA_L, DL.gEq_L, DL.gNe_L, DL.gEq_Q, DL.gNe_Q, DL.gLt_L, DL.gLt_F, DL.gGe_F, List.length_map, $xs,*])
abbrev es0 : SM := (sSet 2 (vFz (eFz (fLst (aCons (eTup (aCons (eMkE "BadQuery" "part" (eVar 0)) (aCons (eC (.str "part")) aNil))) (aCons (eTup (aCons (eMkE "BadPaper" "part" (eVar 0)) (aCons (eC (.str "part")) aNil))) (aCons (eTup (aCons (eMkE "BadDatabase" "place" (eVar 0)) (aCons (eC (.str "place")) aNil))) aNil)))))))
abbrev es1 : SM := (sSet 2 (vFz (eBin gPlus (eVar 2) (eFz (fLst (aCons (eTup (aCons (eMkE "Ringed" "ring" (eVar 0)) (aCons (eC (.str "ring")) aNil))) (aCons (eTup (aCons (eMkE "BadTerm" "path" (eVar 0)) (aCons (eC (.str "path")) aNil))) aNil)))))))
abbrev es2 : SM := (sSet 3 (vFz (eFz (fLst (aCons (eMkE "BadBase" "given" (eVar 0)) (aCons (eMkE "BadNumber" "given" (eVar 0)) (aCons (eMkE "BadLot" "given" (eVar 0)) (aCons (eMkE "BadOther" "given" (eVar 0)) (aCons (eMkE "BadColumn" "given" (eVar 0)) (aCons (eMkE "BadName" "given" (eVar 0)) aNil))))))))))
abbrev es3 : SM := (sSet 3 (vFz (eBin gPlus (eVar 3) (eFz (fLst (aCons (eMkE "BadFact" "given" (eVar 0)) (aCons (eMkE "BadGroup" "given" (eVar 0)) (aCons (eMkE "BadOrder" "given" (eVar 0)) (aCons (eMkE "BadFraction" "given" (eVar 0)) (aCons (eMkE "BadSort" "given" (eVar 0)) aNil))))))))))
abbrev es4 : SM := (sSet 3 (vFz (eBin gPlus (eVar 3) (eFz (fLst (aCons (eMkE "BadTurn" "given" (eVar 0)) (aCons (eMkE "BadTree" "given" (eVar 0)) (aCons (eMkE "BadLeaving" "given" (eVar 0)) (aCons (eMkE "BadBags" "given" (eVar 0)) aNil)))))))))
abbrev es5 : SM := (sFor (iEn (eBin gPlus (eVar 2) (eFz (fComp (iS (eVar 3)) (setFz 5) tYesM (eTup (aCons (eVar 5) (aCons (eC (.str "given")) aNil))) [5])))) (gTupW (gsCons (setFz 4) (gsCons (gTupW (gsCons (setFz 5) (gsCons (setFz 6) gsNil))) gsNil)))
 (sSeq (sIf (tVal (eBin gNe (eOf gReprF (aCons (eCall true F__law_field [] (aCons (eVar 5) (aCons (eVar 6) aNil))) aNil)) (eOf gReprF (aCons (eVar 0) aNil))))
 (sSeq (sRet (eC (.bool false)))
 sNext)
 sNext)
 (sSeq (sIf (tVal (eBin gNe (eCall true F__law_marks [] (aCons (eVar 5) aNil)) (eFz (fComp (iR1 (aCons (eC (.int 24)) aNil)) (setFz 15) tYesM (eBin gEq (eVar 15) (eVar 4)) [15]))))
 (sSeq (sRet (eC (.bool false)))
 sNext)
 sNext)
 (sSeq (sIf (tVal (eBin gNe (eCall true F__law_kinds_of [] (aCons (eVar 5) aNil)) (eFz (fLst (aCons (eC (.bool true)) (aCons (eC (.bool true)) (aCons (eC (.bool false)) (aCons (eC (.bool false)) (aCons (eC (.bool false)) aNil)))))))))
 (sSeq (sRet (eC (.bool false)))
 sNext)
 sNext)
 sNext))))
abbrev es6 : SM := (sAsg (eTup (aCons (eMkE2 "BadText" "line" "word" (eVar 0) (eVar 1)) (aCons (eMkE "TooMany" "most" (eVar 0)) (aCons (eMkE "Missing" "given" (eVar 0)) (aCons (eMkE "NothingLeft" "many" (eVar 0)) aNil))))) (gTupW (gsCons (setFz 7) (gsCons (setFz 8) (gsCons (setFz 9) (gsCons (setFz 10) gsNil))))))
abbrev es7 : SM := (sSet 11 (vFz (eFz (fLst (aCons (eFldE ["BadText"] "line" (eVar 7)) (aCons (eFldE ["BadText"] "word" (eVar 7)) (aCons (eFldE ["TooMany"] "most" (eVar 8)) (aCons (eFldE ["BadBags", "BadBase", "BadColumn", "BadFact", "BadFraction", "BadGroup", "BadLeaving", "BadLot", "BadName", "BadNumber", "BadOrder", "BadOther", "BadSort", "BadTree", "BadTurn", "Missing"] "given" (eVar 9)) (aCons (eFldE ["NothingLeft"] "many" (eVar 10)) aNil)))))))))
abbrev es8 : SM := (sIf (tVal (eBin gNe (eOf gReprF (aCons (eVar 11) aNil)) (eOf gReprF (aCons (eFz (fLst (aCons (eVar 0) (aCons (eVar 1) (aCons (eVar 0) (aCons (eVar 0) (aCons (eVar 0) aNil))))))) aNil))))
 (sSeq (sRet (eC (.bool false)))
 sNext)
 sNext)
abbrev es9 : SM := (sSet 12 (vFz (eFz (fLst (aCons (eCall true F__law_marks [] (aCons (eVar 7) aNil)) (aCons (eCall true F__law_marks [] (aCons (eVar 8) aNil)) (aCons (eCall true F__law_marks [] (aCons (eVar 9) aNil)) (aCons (eCall true F__law_marks [] (aCons (eVar 10) aNil)) aNil))))))))
abbrev es10 : SM := (sIf (tVal (eBin gNe (eVar 12) (eFz (fComp (iR2 (aCons (eC (.int 20)) (aCons (eC (.int 24)) aNil))) (setFz 4) tYesM (eFz (fComp (iR1 (aCons (eC (.int 24)) aNil)) (setFz 15) tYesM (eBin gEq (eVar 15) (eVar 4)) [15])) [4]))))
 (sSeq (sRet (eC (.bool false)))
 sNext)
 sNext)
abbrev es11 : SM := (sSet 13 (vFz (eFz (fLst (aCons (eCall true F__law_kinds_of [] (aCons (eVar 7) aNil)) (aCons (eCall true F__law_kinds_of [] (aCons (eVar 8) aNil)) (aCons (eCall true F__law_kinds_of [] (aCons (eVar 9) aNil)) (aCons (eCall true F__law_kinds_of [] (aCons (eVar 10) aNil)) aNil))))))))
abbrev es12 : SM := (sSet 14 (vOw (fComp (iR2 (aCons (eC (.int 1)) (aCons (eC (.int 5)) aNil))) (setFz 15) tYesM (eFz (fComp (iR2 (aCons (eC (.int 1)) (aCons (eC (.int 5)) aNil))) (setFz 4) tYesM (eBin gEq (eVar 4) (eVar 15)) [4])) [15])))
abbrev es13 : SM := (sFrz 14)
abbrev es14 : SM := (sRet (eBin gEq (eVar 13) (eFz (fComp (iZpR (eC (.int 1)) (eC (.int 5)) (eVar 14)) (gTupW (gsCons (setFz 15) (gsCons (setFz 16) gsNil))) tYesM (eBin gPlus (eFz (fLst (aCons (eBin gEq (eVar 15) (eC (.int 1))) aNil))) (eVar 16)) [15, 16]))))
def mZ (A B : W) : MS := ⟨[some (.fz A), some (.fz B), none, none, none, none, none, none, none, none, none, none, none, none, none, none, none], []⟩
def mA (A B : W) : MS := ⟨[some (.fz A), some (.fz B), some (.fz (.list [(.tuple [(hnd 0), (.str "part")]), (.tuple [(hnd 1), (.str "part")]), (.tuple [(hnd 2), (.str "place")]), (.tuple [(hnd 3), (.str "ring")]), (.tuple [(hnd 4), (.str "path")])])), some (.fz (.list [(hnd 5), (hnd 6), (hnd 7), (hnd 8), (hnd 9), (hnd 10), (hnd 11), (hnd 12), (hnd 13), (hnd 14), (hnd 15), (hnd 16), (hnd 17), (hnd 18), (hnd 19)])), some (.fz (.int (19))), some (.fz (hnd 19)), some (.fz (.str "given")), some (.fz (hnd 20)), some (.fz (hnd 21)), some (.fz (hnd 22)), some (.fz (hnd 23)), some (.fz (.list [A, B, A, A, A])), none, none, none, none, none], [(.exc "BadQuery" [("part", A)]), (.exc "BadPaper" [("part", A)]), (.exc "BadDatabase" [("place", A)]), (.exc "Ringed" [("ring", A)]), (.exc "BadTerm" [("path", A)]), (.exc "BadBase" [("given", A)]), (.exc "BadNumber" [("given", A)]), (.exc "BadLot" [("given", A)]), (.exc "BadOther" [("given", A)]), (.exc "BadColumn" [("given", A)]), (.exc "BadName" [("given", A)]), (.exc "BadFact" [("given", A)]), (.exc "BadGroup" [("given", A)]), (.exc "BadOrder" [("given", A)]), (.exc "BadFraction" [("given", A)]), (.exc "BadSort" [("given", A)]), (.exc "BadTurn" [("given", A)]), (.exc "BadTree" [("given", A)]), (.exc "BadLeaving" [("given", A)]), (.exc "BadBags" [("given", A)]), (.exc "BadText" [("word", B), ("line", A)]), (.exc "TooMany" [("most", A)]), (.exc "Missing" [("given", A)]), (.exc "NothingLeft" [("many", A)])]⟩
theorem eB : B__law_right = (sSeq es0 (sSeq es1 (sSeq es2 (sSeq es3 (sSeq es4 (sSeq es5 (sSeq es6 (sSeq es7 (sSeq es8 (sSeq es9 (sSeq es10 (sSeq es11 (sSeq es12 (sSeq es13 (sSeq es14 sNext))))))))))))))) := rfl
def okF : DL.R Fl → Bool
  | .ok (.ret (.bool true)) _ => true
  | _ => false
def eC1 : SM := (sSeq es9 (sSeq es10 (sSeq es11 (sSeq es12 (sSeq es13 (sSeq es14 sNext))))))
theorem tail_ok (A B : W) : okF (eC1 (mA A B)) = true := by kernel_rfl
theorem mid_ok {A B : W} {S : Str} (h : gReprF [.list [A, B, A, A, A]] = some (.str S)) (r : SM) : sSeq es8 r (mA A B) = r (mA A B) := by
  have gn : gNe (.str S) (.str S) = some (.bool false) := by
    show (some (decide (S = S))).map (fun k => PyData.bool (!k)) = _
    rw [decide_eq_true rfl]
    rfl
  have z5 : szOk 5 = true := by decide
  refine sSeq_next ?_
  unfold mA
  generalize ([(.exc "BadQuery" [("part", A)]), (.exc "BadPaper" [("part", A)]), (.exc "BadDatabase" [("place", A)]), (.exc "Ringed" [("ring", A)]), (.exc "BadTerm" [("path", A)]), (.exc "BadBase" [("given", A)]), (.exc "BadNumber" [("given", A)]), (.exc "BadLot" [("given", A)]), (.exc "BadOther" [("given", A)]), (.exc "BadColumn" [("given", A)]), (.exc "BadName" [("given", A)]), (.exc "BadFact" [("given", A)]), (.exc "BadGroup" [("given", A)]), (.exc "BadOrder" [("given", A)]), (.exc "BadFraction" [("given", A)]), (.exc "BadSort" [("given", A)]), (.exc "BadTurn" [("given", A)]), (.exc "BadTree" [("given", A)]), (.exc "BadLeaving" [("given", A)]), (.exc "BadBags" [("given", A)]), (.exc "BadText" [("word", B), ("line", A)]), (.exc "TooMany" [("most", A)]), (.exc "Missing" [("given", A)]), (.exc "NothingLeft" [("many", A)])] : List Cell) = CS
  simp_all only [h, gn, z5]
end G
namespace G
open PySem PySem.Spec PyProof.Rows L2 DL
theorem pA0 (B : W) (r : SM) : (sSeq es0 (sSeq es1 (sSeq es2 (sSeq es3 (sSeq es4 (sSeq es5 (sSeq es6 (sSeq es7 r)))))))) (mZ (.none) B) = r (mA (.none) B) := by kernel_rfl
theorem pA1 (B : W) (r : SM) : (sSeq es0 (sSeq es1 (sSeq es2 (sSeq es3 (sSeq es4 (sSeq es5 (sSeq es6 (sSeq es7 r)))))))) (mZ (.int 0) B) = r (mA (.int 0) B) := by kernel_rfl
theorem pA2 (B : W) (r : SM) : (sSeq es0 (sSeq es1 (sSeq es2 (sSeq es3 (sSeq es4 (sSeq es5 (sSeq es6 (sSeq es7 r)))))))) (mZ (.int (-1)) B) = r (mA (.int (-1)) B) := by kernel_rfl
end G
namespace G
open PySem PySem.Spec PyProof.Rows L2 DL
theorem pA3 (B : W) (r : SM) : (sSeq es0 (sSeq es1 (sSeq es2 (sSeq es3 (sSeq es4 (sSeq es5 (sSeq es6 (sSeq es7 r)))))))) (mZ (.int (10 ^ 30)) B) = r (mA (.int (10 ^ 30)) B) := by kernel_rfl
theorem pA4 (B : W) (r : SM) : (sSeq es0 (sSeq es1 (sSeq es2 (sSeq es3 (sSeq es4 (sSeq es5 (sSeq es6 (sSeq es7 r)))))))) (mZ (.str "") B) = r (mA (.str "") B) := by kernel_rfl
theorem pA5 (B : W) (r : SM) : (sSeq es0 (sSeq es1 (sSeq es2 (sSeq es3 (sSeq es4 (sSeq es5 (sSeq es6 (sSeq es7 r)))))))) (mZ (.str "x y") B) = r (mA (.str "x y") B) := by kernel_rfl
end G
namespace G
open PySem PySem.Spec PyProof.Rows L2 DL
theorem pA6 (B : W) (r : SM) : (sSeq es0 (sSeq es1 (sSeq es2 (sSeq es3 (sSeq es4 (sSeq es5 (sSeq es6 (sSeq es7 r)))))))) (mZ (.tuple []) B) = r (mA (.tuple []) B) := by kernel_rfl
theorem pA7 (B : W) (r : SM) : (sSeq es0 (sSeq es1 (sSeq es2 (sSeq es3 (sSeq es4 (sSeq es5 (sSeq es6 (sSeq es7 r)))))))) (mZ (.tuple [.str "a", .int 0]) B) = r (mA (.tuple [.str "a", .int 0]) B) := by kernel_rfl
theorem pA8 (B : W) (r : SM) : (sSeq es0 (sSeq es1 (sSeq es2 (sSeq es3 (sSeq es4 (sSeq es5 (sSeq es6 (sSeq es7 r)))))))) (mZ (.list [.int 1]) B) = r (mA (.list [.int 1]) B) := by kernel_rfl
end G
namespace G
open PySem PySem.Spec PyProof.Rows L2 DL
theorem pA9 (B : W) (r : SM) : (sSeq es0 (sSeq es1 (sSeq es2 (sSeq es3 (sSeq es4 (sSeq es5 (sSeq es6 (sSeq es7 r)))))))) (mZ (.dict []) B) = r (mA (.dict []) B) := by kernel_rfl
theorem pA10 (B : W) (r : SM) : (sSeq es0 (sSeq es1 (sSeq es2 (sSeq es3 (sSeq es4 (sSeq es5 (sSeq es6 (sSeq es7 r)))))))) (mZ (.bool true) B) = r (mA (.bool true) B) := by kernel_rfl
theorem pA11 (B : W) (r : SM) : (sSeq es0 (sSeq es1 (sSeq es2 (sSeq es3 (sSeq es4 (sSeq es5 (sSeq es6 (sSeq es7 r)))))))) (mZ (.tuple [.tuple [.int 0, .int 0], .tuple [.str "w"]]) B) = r (mA (.tuple [.tuple [.int 0, .int 0], .tuple [.str "w"]]) B) := by kernel_rfl
end G
namespace G
open PySem PySem.Spec PyProof.Rows L2 DL
local macro_rules
  | `(tactic| simp_all only) => `(tactic| simp_all only [Bool.and_true])
  | `(tactic| simp_all only [$xs:simpLemma,*]) => `(tactic| simp only [DL.eVar_a, DL.eC_a, DL.eBin_a, DL.tVal_a, DL.tAnd_a, DL.tOr_a, DL.tNot_a, DL.eAnd_a, DL.eOr_a, DL.eNot_a, DL.eIf_a, DL.aNil_a, DL.aCons_a, DL.aStar_a, DL.eTup_a, DL.fLst_a, DL.eFz_a, DL.eOf_a, DL.fOf_a, DL.oNone_a, DL.oSome_a, DL.eIsi_a, DL.fBin_a, DL.iR1_a, DL.iR2_a, DL.iEn_a, DL.iZp_a, DL.fComp_a, DL.tYesM_a, DL.vFz_a, DL.vOw_a, DL.vOd_a, DL.vOn_a, DL.sNext_a, DL.sSeq_a, DL.sDrop_a, DL.sRet_a, DL.sIf_a, DL.sAsg_a, DL.sSet_a, DL.sFor_a, DL.sWhile_a, DL.eOwn_a, DL.eExtF_a, DL.eIxO_a, DL.eChain_a, DL.fComp2_a, DL.kNew_a, DL.eFzD_a, DL.kComp_a, DL.kComp2_a, DL.eUpdF_a, DL.iS_a, DL.iVs_a, DL.iIt_a, DL.eCut_a, DL.eGet1_a, DL.eGet2_a, DL.eCAt_a, DL.eCLen_a, DL.eCCell_a, DL.eCLeft_a, DL.sCAt_a, DL.sCLeft_a, DL.fIf_a, DL.eUn_a, DL.sFrz_a, DL.fRg1_a, DL.fRg2_a, DL.fSortN_a, DL.kDict_a, DL.kDictN_a, DL.eIdx_a, DL.eTr1_a, DL.eHold_a, DL.fHold_a, DL.tHold_a, DL.sPar_a, DL.sForN_a, DL.eTabGet_a, DL.setFz_a, DL.gsNil_a, DL.gsCons_a, DL.tupW_t, DL.gSetI_a, DL.gSetD_a, DL.gSetN_a, DL.bind_ok, DL.opt_some, DL.eCallF_a, DL.eCallT_a, List.getElem?_cons_zero, List.getElem?_cons_succ, List.set_cons_zero, List.set_cons_succ, Bool.false_eq_true, if_true, if_false, Bool.not_true, Bool.not_false, reduceIte, List.cons_append, List.nil_append, List.map_cons, List.map_nil, List.length_cons, List.length_nil, Nat.reduceAdd, Nat.reduceSub, List.replicate, DL.ownFree, List.all_cons, List.all_nil, DL.Sl.isOwn, DL.wipeE, DL.io_l, DL.io_t, DL.wo_l, DL.wo_t, DL.gLen_tup, DL.gLen_lst, DL.gTuple_lst, DL.gTuple_tup, DL.szOk_0, DL.szOk_1, DL.szOk_2, DL.szOk_3, DL.szOk_4, Bool.and_true, Bool.true_and, Bool.and_false, Bool.false_and, Bool.true_or, Bool.false_or, Bool.or_true, Bool.or_false, reduceCtorEq, DL.ownAt, DL.frW, DL.ownN, DL.putE, DL.evVs, DL.vb_b, DL.andK_b, DL.orK_b, DL.notK_b, DL.chn_b, DL.ite_andW, DL.ite_orW, DL.ite_andT, DL.ite_orT, DL.isi_tt, DL.isi_ii, DL.isi_ib, DL.tyN_tup, DL.tyN_int, Option.map_some, Option.map_none, DL.ix_Q0, DL.ix_Q1, DL.ix_Q2, DL.ix_F0, DL.ix_F1, DL.ix_F2, DL.ix_F3, DL.tup_Q, DL.tup_F, DL.wo_L, DL.wo_T, DL.wo_Fs, DL.io_L, DL.io_T, DL.io_Fs, DL.len_L, DL.len_T, DL.len_Fs, DL.len_Q, DL.len_F, DL.ty_L, DL.ty_T, DL.ty_Fs, DL.ty_Q, DL.ty_F, DL.tuple_L, DL.tuple_T, DL.tuple_Fs, DL.gLe_int, DL.gLt_int, DL.gGe_int, DL.gGt_int, DL.gEq_int, DL.gNe_int, DL.gPlus_int, DL.gSub_int, DL.gInA_L, DL.gNotInA_L, DL.gEq_L, DL.gNe_L, DL.gEq_Q, DL.gNe_Q, DL.gLt_L, DL.gLt_F, DL.gGe_F, List.length_map, $xs,*])
def somes : List W := [.none, .int 0, .int (-1), .int (10 ^ 30), .str "", .str "x y", .tuple [], .tuple [.str "a", .int 0], .list [.int 1], .dict [], .bool true, .tuple [.tuple [.int 0, .int 0], .tuple [.str "w"]]]
theorem pA {a : W} (h : a ∈ somes) (B : W) (r : SM) : (sSeq es0 (sSeq es1 (sSeq es2 (sSeq es3 (sSeq es4 (sSeq es5 (sSeq es6 (sSeq es7 r)))))))) (mZ a B) = r (mA a B) := by
  unfold somes at h
  simp only [List.mem_cons, List.not_mem_nil, or_false] at h
  rcases h with rfl | rfl | rfl | rfl | rfl | rfl | rfl | rfl | rfl | rfl | rfl | rfl
  · exact pA0 B r
  · exact pA1 B r
  · exact pA2 B r
  · exact pA3 B r
  · exact pA4 B r
  · exact pA5 B r
  · exact pA6 B r
  · exact pA7 B r
  · exact pA8 B r
  · exact pA9 B r
  · exact pA10 B r
  · exact pA11 B r
def isStrB : Option W → Bool
  | some (.str _) => true
  | _ => false
theorem reprs_ok : (somes.all fun a => somes.all fun b => isStrB (gReprF [.list [a, b, a, a, a]]) && nhs [a, b]) = true := by kernel_rfl
theorem right_ok {a b : W} (ha : a ∈ somes) (hb : b ∈ somes) : nhs [a, b] = true ∧ ∃ m, F__law_right [a, b] [] = .ok (.bool true) m := by
  have h := List.all_eq_true.mp (List.all_eq_true.mp reprs_ok a ha) b hb
  rw [Bool.and_eq_true] at h
  refine ⟨h.2, ?_⟩
  obtain ⟨S, hS⟩ : ∃ S : Str, gReprF [.list [a, b, a, a, a]] = some (.str S) := by
    have h1 := h.1
    generalize gReprF [.list [a, b, a, a, a]] = o at h1
    cases o with
    | none => cases h1
    | some w => cases w <;> first | exact ⟨_, rfl⟩ | cases h1
  have h2 := tail_ok a b
  obtain ⟨m, hm⟩ : ∃ m, eC1 (mA a b) = .ok (.ret (.bool true)) m := by
    generalize eC1 (mA a b) = r at h2
    unfold okF at h2
    split at h2
    · exact ⟨_, rfl⟩
    · cases h2
  refine ⟨⟨[], m.cells⟩, ?_⟩
  unfold F__law_right
  refine runB_ret (n := 17) (ws := [a, b]) (m := m) ?_
  show B__law_right (mZ a b) = _
  rw [eB]
  exact (pA ha b _).trans ((mid_ok hS _).trans hm)
theorem run_law_of {N : Int} {cells : List Cell} (hd : DrawOk N cells) (hN : N ≤ 900000) : ∃ (a : W) (cells' : List Cell), a ∈ somes ∧ F__law_of [hnd 0, .list somes] cells = .ok a ⟨[], cells'⟩ ∧ DrawOk (N + 1) cells' := by
  have hl : somes.length = 12 := rfl
  obtain ⟨d, c1, e1, a0, a1, hd1⟩ := run_draw (many := 12) hd hN (by decide) (by decide)
  have hlen : gLen [.list somes] = some (.int 12) := rfl
  have hx : ixW (.list somes) (.int d) = some (somes.getD d.toNat .none) := ixW_l (by
    have := atI_map (id : W → W) somes d .none a0 (by rw [hl]; omega)
    rw [List.map_id] at this
    exact this)
  refine ⟨somes.getD d.toNat .none, c1, ?_, ?_, hd1⟩
  · have hlt : d.toNat < somes.length := by rw [hl]; omega
    rw [List.getD_eq_getElem?_getD, List.getElem?_eq_getElem hlt]
    exact List.getElem_mem hlt
  · generalize somes = SL at *
    unfold F__law_of runB B__law_of
    simp_all only [hlen, e1, hx]
theorem turn_ok {s0 : Sl} {N : Int} {cells : List Cell} (hd : DrawOk N cells) (hN : N ≤ 800000) (b3 : Option W) (k : W) : ∃ cells', fb_law_1 ⟨[some s0, some (.fz (hnd 0)), some (.fz (.list somes)), some (.fz k)], cells⟩ = .ok .next ⟨[some s0, some (.fz (hnd 0)), some (.fz (.list somes)), some (.fz k)], cells'⟩ ∧ DrawOk (N + 2) cells' := by
  obtain ⟨a, c1, ha, e1, hd1⟩ := run_law_of hd (by omega)
  obtain ⟨b, c2, hb, e2, hd2⟩ := run_law_of hd1 (by omega)
  obtain ⟨hn, m, e3⟩ := right_ok ha hb
  have hbt : nh (.bool true) = true := rfl
  refine ⟨c2, ?_, hd2.mono (by omega)⟩
  generalize somes = SL at *
  unfold fb_law_1
  simp_all only [eCallL, e1, e2, hn, e3, hbt]
theorem forGo_oneE {g : GM} {body : SM} {x : W} {ys : List W} {m m1 m2 : MS} (h1 : g x m = .ok () m1) (h2 : body m1 = .ok .next m2) : forGo g body (x :: ys) m = forGo g body ys m2 := by
  rw [forGo, h1]
  dsimp only
  rw [h2]
  rfl
theorem turns_run (s0 : Sl) : ∀ (ks : List W) (N : Int) (cells : List Cell) (o3 : Option W), DrawOk N cells → N + 2 * (ks.length : Int) ≤ 700000 → ∃ (c3 : Option W) (cells' : List Cell), forGo fg_law_1 fb_law_1 ks ⟨[some s0, some (.fz (hnd 0)), some (.fz (.list somes)), o3.map Sl.fz], cells⟩ = .ok .next ⟨[some s0, some (.fz (hnd 0)), some (.fz (.list somes)), c3.map Sl.fz], cells'⟩
  | [], N, cells, o3, _, _ => ⟨o3, cells, rfl⟩
  | k :: ks, N, cells, o3, hd, hN => by
    rw [List.length_cons] at hN
    obtain ⟨c1, e1, hd1⟩ := turn_ok (s0 := s0) hd (by omega) o3 k
    obtain ⟨c3, c2, e2⟩ := turns_run s0 ks (N + 2) c1 (some k) hd1 (by omega)
    refine ⟨c3, c2, (forGo_oneE (m1 := ⟨[some s0, some (.fz (hnd 0)), some (.fz (.list somes)), some (.fz k)], cells⟩) (by cases o3 <;> rfl) e1).trans e2⟩
theorem law_true (ns : List Int) (hz : ns.length ≤ 63) : ∃ m, F_law [.list (ns.map .int)] [] = .ok (.bool true) m := by
  obtain ⟨c1, e1, hd1⟩ := run_begin ns hz
  have hrl : rngL1 [.int ((3 + min 4 ns.length : Nat) : Int)] = some (rngW 0 (3 + min 4 ns.length)) := by
    have hb : rngOk ((3 + min 4 ns.length : Nat) : Int) = true := by
      have : 3 + min 4 ns.length ≤ 7 := by omega
      generalize 3 + min 4 ns.length = x at this
      have : ∀ y : Nat, y ≤ 7 → rngOk ((y : Nat) : Int) = true := by decide
      exact this x (by omega)
    show (if rngOk _ = true then _ else _) = _
    rw [if_pos hb]
    have e : ((3 + min 4 ns.length : Nat) : Int).toNat = 3 + min 4 ns.length := Int.toNat_natCast _
    rw [e]
  obtain ⟨c3, c2, e2⟩ := turns_run (.fz (.list (ns.map .int))) (rngW 0 (3 + min 4 ns.length)) 0 c1 none hd1 (by
    have : (rngW 0 (3 + min 4 ns.length)).length = 3 + min 4 ns.length := by unfold rngW; rw [List.length_map, List.length_range]
    rw [this]
    omega)
  have e2 : forGo fg_law_1 fb_law_1 (rngW 0 (3 + min 4 ns.length)) ⟨[some (.fz (.list (ns.map .int))), some (.fz (hnd 0)), some (.fz (.list somes)), none], c1⟩ = .ok .next ⟨[some (.fz (.list (ns.map .int))), some (.fz (hnd 0)), some (.fz (.list somes)), c3.map Sl.fz], c2⟩ := e2
  have hlen : gLen [.list (ns.map .int)] = some (.int (ns.length : Nat)) := by
    show some (PyData.int ((ns.map PyData.int).length : Nat)) = _
    rw [List.length_map]
  have hmin : gMinA [.int 4, .int (ns.length : Nat)] = some (.int ((min 4 ns.length : Nat) : Int)) := by
    show ((gMin2 [.int 4, .int (ns.length : Nat)]).or _) = _
    have : gMin2 [.int 4, .int (ns.length : Nat)] = some (.int ((min 4 ns.length : Nat) : Int)) := by
      show some (PyData.int (if ((ns.length : Nat) : Int) < 4 then (ns.length : Nat) else 4)) = _
      congr 2
      split <;> omega
    rw [this]
    rfl
  have hpl : gPlus (.int 3) (.int ((min 4 ns.length : Nat) : Int)) = some (.int ((3 + min 4 ns.length : Nat) : Int)) := by
    show some (PyData.int ((3 : Int) + ((min 4 ns.length : Nat) : Int))) = _
    congr 2
  have hsm : (eFz (fLst (aCons (eC .none) (aCons (eC (.int 0)) (aCons (eUn gNeg (eC (.int 1))) (aCons (eBin gPow (eC (.int 10)) (eC (.int 30))) (aCons (eC (.str "")) (aCons (eC (.str "x y")) (aCons (eTup aNil) (aCons (eTup (aCons (eC (.str "a")) (aCons (eC (.int 0)) aNil))) (aCons (eFz (fLst (aCons (eC (.int 1)) aNil))) (aCons (eFzD kNew) (aCons (eC (.bool true)) (aCons (eTup (aCons (eTup (aCons (eC (.int 0)) (aCons (eC (.int 0)) aNil))) (aCons (eTup (aCons (eC (.str "w")) aNil)) aNil))) aNil)))))))))))))) ⟨[some (.fz (.list (ns.map .int))), some (.fz (hnd 0)), none, none], c1⟩ = .ok (.list somes) ⟨[some (.fz (.list (ns.map .int))), some (.fz (hnd 0)), none, none], c1⟩ := by
    generalize PyData.list (ns.map .int) = NL
    kernel_rfl
  refine ⟨⟨[], c2⟩, ?_⟩
  unfold F_law
  refine runB_ret (n := 4) (ws := [.list (ns.map .int)]) (m := ⟨[some (.fz (.list (ns.map .int))), some (.fz (hnd 0)), some (.fz (.list somes)), c3.map Sl.fz], c2⟩) ?_
  show B_law ⟨[some (.fz (.list (ns.map .int))), none, none, none], []⟩ = _
  unfold B_law
  generalize hNL : PyData.list (ns.map .int) = NL at *
  generalize somes = SL at *
  refine (sSeq_next (m1 := ⟨[some (.fz NL), some (.fz (hnd 0)), none, none], c1⟩) ?_).trans ?_
  · simp_all only [e1]
  refine (sSeq_next (m1 := ⟨[some (.fz NL), some (.fz (hnd 0)), some (.fz (.list SL)), none], c1⟩) ?_).trans ?_
  · rw [sSet_a, vFz_a, hsm]
    rfl
  refine (sSeq_next (m1 := ⟨[some (.fz NL), some (.fz (hnd 0)), some (.fz (.list SL)), c3.map Sl.fz], c2⟩) ?_).trans (sSeq_ret rfl)
  generalize ((3 + min 4 ns.length : Nat) : Int) = N3 at *
  generalize rngW 0 (3 + min 4 ns.length) = RW at *
  simp_all only [hlen, hmin, hpl, hrl, e2]
end G
namespace GH
open PySem PySem.Spec PyProof.Rows L2 DL G
abbrev R : PySem.W.OpenRow := PySem.W.OpenLaw.row PySem.Challenge.rw_answerrooms_k37_errors_by_hand
def as0 : List Str := ["_law_begin", "_law_mixed", "_law_draw", "_law_of", "_law_field", "_law_kinds_of", "_law_marks", "_law_right", "law"]
def asC : List Str := ["BadBags", "BadBase", "BadColumn", "BadDatabase", "BadFact", "BadFraction", "BadGroup", "BadLeaving", "BadLot", "BadName", "BadNumber", "BadOrder", "BadOther", "BadPaper", "BadQuery", "BadSort", "BadTerm", "BadText", "BadTree", "BadTurn", "Missing", "NothingLeft", "Ringed", "TooMany", "RoomError"]
def asG : DL.AS := fun z => sysModules :: DL.asN (as0) asC z
abbrev hk : PySem.W.Hook := hookC (PySem.Challenge.rw_answerrooms_k37_errors_by_hand).prog asG fa fn ts tf xs (isyB xcs xqo xqb)
def ob (s : PySem.W.SharedT) : AlH × Bool := obsC (PySem.Challenge.rw_answerrooms_k37_errors_by_hand).prog asG fa fn ts tf xs (isyB xcs xqo xqb) (HandSHeadRun.getT s)
theorem ob_eq (s : PySem.W.SharedT) : ob s = hk.obs s.abs := obsC_eq (HandSHeadRun.getT_eq s)
abbrev lo0 : List Str := ["__name__", "RoomError", "BadQuery", "BadPaper", "BadDatabase", "Ringed", "BadBase", "BadNumber", "BadLot", "BadOther", "BadColumn", "BadName", "BadFact", "BadGroup", "BadOrder", "BadFraction", "BadSort", "BadTurn", "BadTree", "BadLeaving", "BadBags", "BadTerm", "BadText", "TooMany", "Missing", "NothingLeft", "_law_mixed", "_law_begin", "_law_draw", "_law_of"]
abbrev lo1 : List Str := ["_law_kinds_of", "_law_marks", "_law_field", "_law_right"]
abbrev loose : List Str := lo0 ++ lo1
theorem run_false (w : World) : HandSHeadRun.RunEq R (PySem.W.view R.prog [35]) hk ob 8000 loose (w.withFollow "special-get-raises" false) := by
  intro os
  kernel_rfl
theorem run_true (w : World) : HandSHeadRun.RunEq R (PySem.W.view R.prog [35]) hk ob 8000 loose (w.withFollow "special-get-raises" true) := by
  intro os
  kernel_rfl
theorem run (w : World) : HandSHeadRun.RunEq R (PySem.W.view R.prog [35]) hk ob 8000 loose w := PySem.W.byRow2 "special-get-raises" run_false run_true w
end GH
open PySem PySem.W PySem.Calls PyProof.Rows
theorem PySem.Challenge.cw_answerrooms_k37_errors_by_hand_holds : PySem.Challenge.rw_answerrooms_k37_errors_by_hand.Holds := by
  w_on; o_law
  refine HandSHeadRun.head_any (r := OpenLaw.row PySem.Challenge.rw_answerrooms_k37_errors_by_hand) (q := view (OpenLaw.row PySem.Challenge.rw_answerrooms_k37_errors_by_hand).prog [35]) (H := GH.hk) (ob := GH.ob) (M := 8000) (loose := GH.loose) (d := HandSHeadRun.topDef (OpenLaw.row PySem.Challenge.rw_answerrooms_k37_errors_by_hand).prog 35) (kwd := []) GH.ob_eq
    (by kernel_rfl) (fun s => by kernel_rfl) GH.run (by kernel_rfl) (by kernel_rfl) (by kernel_rfl) (by rfl) (by first | assumption | decide +kernel) (by decide +kernel) ⟨rfl, rfl, rfl, rfl, rfl, by decide +kernel⟩ ?hw ?hc
  case hw => w_witness2
  case hc =>
    refine DL.walk_dlG (l := PySem.Challenge.rw_answerrooms_k37_errors_by_hand) (n := 63) (k := 4) (x := "_law_script") (nm := "law") (F := G.F_law) (tf := G.tf) rfl (by decide) (by kernel_rfl) ⟨rfl, by decide, by decide⟩ (by kernel_rfl) G.law_true ?F
    intro w mg h Y Gr
    obtain ⟨K, KX, c, cc⟩ := Y
    obtain ⟨fd, hb, hm, hF⟩ := G.law_at (P := (PySem.Challenge.rw_answerrooms_k37_errors_by_hand).prog) (w := w) KX Gr c.d (c.ex KX Gr) cc
    have mem : ∀ x ∈ G.tf, ((x, none) : He.Defn) ∈ DL.tfOf G.tf := fun x hx => List.mem_map.mpr ⟨x, hx, rfl⟩
    exact ⟨K, fd, KX, fun x hx => c.x.empty _ (mem x hx), fun x hx => c.x.out _ (mem x hx), fun x hx => c.x.hd _ (mem x hx), hb, hm, fun base htb => hF base htb⟩
