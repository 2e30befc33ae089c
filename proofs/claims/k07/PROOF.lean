import PyProof.Rows.All
import Wide.All
import OpenK.AllK
import Wide.FinOn
import HandS.ForMost
import HandS.ForExc
import KE.SortData
import HandS.HeadHook1
import HandS.HeadHook2
import HandS.Wide
import HandS.TupAny
import HandS.TupMul
import HandS.Star
import HandS.IsInst
import HandS.More
import HandS.Deep
import HandS.Text
import HandS.Zip
import KE.GoesEnum
import KE.GoesNew
import HandS.Comp
import HandS.Style
import HandS.CallSlots
import HandS.DictComp
import KE.DataCmp
import KE.DataMinMax
import HandS.SortInts
import HandS.Conv
import KE.KTupSum
import HandS.HeadEnd
import HandS.Head2
import HandS.HeadHook3
import PySem.Challenge.RW_answerrooms_k07_rooms_by_hand
set_option Elab.async false
set_option linter.all false
set_option maxRecDepth 100000
set_option maxHeartbeats 0
set_option autoImplicit false
namespace DL
open PySem PySem.Spec PyProof.Rows L2

abbrev W := PyData
abbrev CA := List (List Addr)

/-- a frozen list: one that nobody writes any more, or one of the written part -/
def FzL (K : PySem.W.Frag) (H : Hp) (a : Addr) (vs : List V) : Prop := (∃ o, H a = some (.frz o (.lst vs))) ∨
  ∃ (its : Array Value) (n : Nat), K.lookup a = some { cls := .type "list", data := .seq its n } ∧ its.size ≤ sizeLine ∧ Vals vs its.toList
/-- a tuple -/
def FzT (K : PySem.W.Frag) (H : Hp) (a : Addr) (vs : List V) : Prop :=
  H a = some (.tup vs) ∨ ∃ (o : Obj) (its : Array Value) (n : Nat), K.lookup a = some o ∧ o.cls = .type "tuple" ∧ o.data = .seq its n ∧ its.size ≤ sizeLine ∧ Vals vs its.toList
/-- the key of a frozen dict of flat keys, as data -/
def kW : Key → W
  | .inl i => .int i
  | .inr s => .str s
/-- a dict of flat keys, frozen -/
def FzD (K : PySem.W.Frag) (H : Hp) (a : Addr) (kvs : List (Key × V)) : Prop := ∃ o, H a = some (.frz o (.dK kvs))

mutual
/-- the value v stands for the data w -/
def Rp (K : PySem.W.Frag) (ca : CA) (H : Hp) : W → V → Prop
  | .none, v => v = .non
  | .bool b, v => v = .bl b
  | .int i, v => v = .int i
  | .str s, v => v = .str s
  | .list xs, v => ∃ a vs, v = .ref a ∧ FzL K H a vs ∧ RpAll K ca H xs vs
  | .tuple xs, v => ∃ a vs, v = .ref a ∧ FzT K H a vs ∧ RpAll K ca H xs vs
  | .dict kvs, v => (∃ k : Nat, ∃ a as, kvs = [(.none, .int k)] ∧ ca[k]? = some (a :: as) ∧ v = .ref a) ∨
      ∃ a ps, v = .ref a ∧ FzD K H a ps ∧ RpKv K ca H kvs ps
def RpAll (K : PySem.W.Frag) (ca : CA) (H : Hp) : List W → List V → Prop
  | [], vs => vs = []
  | x :: xs, vs => ∃ v r, vs = v :: r ∧ Rp K ca H x v ∧ RpAll K ca H xs r
def RpKv (K : PySem.W.Frag) (ca : CA) (H : Hp) : List (W × W) → List (Key × V) → Prop
  | [], ps => ps = []
  | (k, x) :: xs, ps => ∃ q v r, ps = (q, v) :: r ∧ k = kW q ∧ Rp K ca H x v ∧ RpKv K ca H xs r
end

/-- what never changes is kept -/
structure Kp (H H' : Hp) : Prop where
  tup : ∀ b xs, H b = some (.tup xs) → H' b = some (.tup xs)
  frz : ∀ b o u, H b = some (.frz o u) → H' b = some (.frz o u)
theorem Kp.refl (H : Hp) : Kp H H := ⟨fun _ _ h => h, fun _ _ _ h => h⟩
theorem Kp.trans {H H1 H2 : Hp} (a : Kp H H1) (b : Kp H1 H2) : Kp H H2 := ⟨fun c xs h => b.tup c xs (a.tup c xs h), fun c o u h => b.frz c o u (a.frz c o u h)⟩
theorem Kp.of_same {H H' : Hp} (a : Same H H') : Kp H H' := ⟨fun b xs h => a b _ h, fun b o u h => a b _ h⟩
theorem Kp.upd_new {H : Hp} {p : Addr} {o : HO} (h : H p = none) : Kp H (upd H p o) := .of_same fun b u e => by rw [upd_ne (ne_of_none e h)]; exact e
theorem Same.upd_new {H : Hp} {p : Addr} {o : HO} (h : H p = none) : Same H (upd H p o) := fun b u e => by rw [upd_ne (ne_of_none e h)]; exact e

structure Ext (ca : CA) (H : Hp) (ca' : CA) (H' : Hp) : Prop where
  kp : Kp H H'
  pre : ca <+: ca'
theorem Ext.refl (ca : CA) (H : Hp) : Ext ca H ca H := ⟨.refl H, List.prefix_refl ca⟩
theorem Ext.trans {ca ca1 ca2 : CA} {H H1 H2 : Hp} (a : Ext ca H ca1 H1) (b : Ext ca1 H1 ca2 H2) : Ext ca H ca2 H2 := ⟨a.kp.trans b.kp, a.pre.trans b.pre⟩
theorem Ext.of_same {ca : CA} {H H' : Hp} (a : Same H H') : Ext ca H ca H' := ⟨.of_same a, List.prefix_refl ca⟩

theorem FzL.mono {K : PySem.W.Frag} {H H' : Hp} {a : Addr} {vs : List V} (k : Kp H H') (h : FzL K H a vs) : FzL K H' a vs := by
  rcases h with ⟨o, h⟩ | h
  · exact .inl ⟨o, k.frz _ _ _ h⟩
  · exact .inr h
theorem FzT.mono {K : PySem.W.Frag} {H H' : Hp} {a : Addr} {vs : List V} (k : Kp H H') (h : FzT K H a vs) : FzT K H' a vs := by
  rcases h with h | h
  · exact .inl (k.tup _ _ h)
  · exact .inr h
theorem FzD.mono {K : PySem.W.Frag} {H H' : Hp} {a : Addr} {vs : List (Key × V)} (k : Kp H H') (h : FzD K H a vs) : FzD K H' a vs :=
  let ⟨o, h⟩ := h; ⟨o, k.frz _ _ _ h⟩
theorem FzL.sq {K : PySem.W.Frag} {H : Hp} {a : Addr} {vs : List V} (h : FzL K H a vs) : SqL K H a vs := by
  rcases h with ⟨o, h⟩ | ⟨its, n, h1, h2, h3⟩
  · exact .inl (.inr ⟨o, h⟩)
  · exact .inr ⟨_, its, n, h1, rfl, rfl, rfl, h2, h3⟩
theorem FzT.sq {K : PySem.W.Frag} {H : Hp} {a : Addr} {vs : List V} (h : FzT K H a vs) : SqT K H a vs := by
  rcases h with h | h
  · exact .inl (.inl h)
  · exact .inr h
theorem pre_get {ca ca' : CA} (h : ca <+: ca') {k : Nat} {x : List Addr} (e : ca[k]? = some x) : ca'[k]? = some x := by
  obtain ⟨t, rfl⟩ := h
  have hk : k < ca.length := by
    rcases Nat.lt_or_ge k ca.length with h | h
    · exact h
    · rw [List.getElem?_eq_none h] at e; cases e
  rw [List.getElem?_append_left hk]; exact e

mutual
theorem Rp.mono {K : PySem.W.Frag} {ca ca' : CA} {H H' : Hp} (x : Ext ca H ca' H') : ∀ (w : W) (v : V), Rp K ca H w v → Rp K ca' H' w v
  | .none, v, h => by simpa only [Rp] using h
  | .bool b, v, h => by simpa only [Rp] using h
  | .int b, v, h => by simpa only [Rp] using h
  | .str b, v, h => by simpa only [Rp] using h
  | .list xs, v, h => by
    simp only [Rp] at h ⊢
    obtain ⟨a, vs, e, f, r⟩ := h
    exact ⟨a, vs, e, f.mono x.kp, RpAll.mono x xs vs r⟩
  | .tuple xs, v, h => by
    simp only [Rp] at h ⊢
    obtain ⟨a, vs, e, f, r⟩ := h
    exact ⟨a, vs, e, f.mono x.kp, RpAll.mono x xs vs r⟩
  | .dict kvs, v, h => by
    simp only [Rp] at h ⊢
    rcases h with ⟨k, a, as, e1, e2, e3⟩ | ⟨a, ps, e, f, r⟩
    · exact .inl ⟨k, a, as, e1, pre_get x.pre e2, e3⟩
    · exact .inr ⟨a, ps, e, f.mono x.kp, RpKv.mono x kvs ps r⟩
theorem RpAll.mono {K : PySem.W.Frag} {ca ca' : CA} {H H' : Hp} (x : Ext ca H ca' H') : ∀ (xs : List W) (vs : List V), RpAll K ca H xs vs → RpAll K ca' H' xs vs
  | [], vs, h => by simpa only [RpAll] using h
  | y :: ys, vs, h => by
    simp only [RpAll] at h ⊢
    obtain ⟨v, r, e, h1, h2⟩ := h
    exact ⟨v, r, e, Rp.mono x y v h1, RpAll.mono x ys r h2⟩
theorem RpKv.mono {K : PySem.W.Frag} {ca ca' : CA} {H H' : Hp} (x : Ext ca H ca' H') : ∀ (xs : List (W × W)) (vs : List (Key × V)), RpKv K ca H xs vs → RpKv K ca' H' xs vs
  | [], vs, h => by simpa only [RpKv] using h
  | (k, y) :: ys, vs, h => by
    simp only [RpKv] at h ⊢
    obtain ⟨q, v, r, e, ek, h1, h2⟩ := h
    exact ⟨q, v, r, e, ek, Rp.mono x y v h1, RpKv.mono x ys r h2⟩
end
end DL
namespace DL
open PySem PySem.Spec PyProof.Rows L2

/-- a slot: a thing that stays as it is; a list, a dict of this def's own that it still changes -/
inductive Sl where
  | fz (w : W)
  | ow (xs : List W)
  | od (kvs : List (W × W))
/-- a thing that several defs may change -/
inductive Cell where
  | draw (cs ls : List Int) (at_ room : Int)
  | inst (c : Str) (fs : List (Str × W))
structure MS where
  env : List (Option Sl)
  cells : List Cell
inductive R (α : Type) where
  | ok (a : α) (m : MS)
  | err (c : Str) (fs : List (Str × W)) (m : MS)
  | bad
def R.bind {α β : Type} (r : R α) (f : α → MS → R β) : R β :=
  match r with
  | .ok a m => f a m
  | .err c fs m => .err c fs m
  | .bad => .bad
abbrev EM := MS → R W
abbrev TM := MS → R Bool
inductive Fl where
  | next | ret (w : W) | brk | cont
abbrev SM := MS → R Fl

structure DC where
  K : PySem.W.Frag
  H0 : Hp
  ca0 : CA
  st : Bool

def RpFs (K : PySem.W.Frag) (ca : CA) (H : Hp) : List (Str × W) → List (Str × V) → Prop
  | [], ps => ps = []
  | (k, x) :: xs, ps => ∃ v r, ps = (k, v) :: r ∧ Rp K ca H x v ∧ RpFs K ca H xs r
theorem RpFs.mono {K : PySem.W.Frag} {ca ca' : CA} {H H' : Hp} (x : Ext ca H ca' H') : ∀ (xs : List (Str × W)) (vs : List (Str × V)), RpFs K ca H xs vs → RpFs K ca' H' xs vs
  | [], vs, h => by simpa only [RpFs] using h
  | (k, y) :: ys, vs, h => by
    simp only [RpFs] at h ⊢
    obtain ⟨v, r, e, h1, h2⟩ := h
    exact ⟨v, r, e, Rp.mono x y v h1, RpFs.mono x ys r h2⟩

def CellAt (K : PySem.W.Frag) (ca : CA) (H : Hp) : Cell → List Addr → Prop
  | .draw cs ls a r, as => ∃ s c l, as = [s, c, l] ∧ H s = some (.dK [(Sum.inr "cells", .ref c), (Sum.inr "lefts", .ref l), (Sum.inr "at", .int a), (Sum.inr "room", .int r)]) ∧ H c = some (.lst (cs.map V.int)) ∧ H l = some (.lst (ls.map V.int))
  | .inst c fs, as => ∃ x dx fs', as = [x, dx] ∧ H x = some (.ins (He.ga K c) dx fs') ∧ H dx = some (.own x) ∧ RpFs K ca H fs fs'

/-- an own list | dict at p -/
def OwnAt (K : PySem.W.Frag) (ca : CA) (H : Hp) (p : Addr) : Sl → Prop
  | .fz _ => False
  | .ow xs => ∃ vs, H p = some (.lst vs) ∧ RpAll K ca H xs vs
  | .od kvs => ∃ ps, H p = some (.dK ps) ∧ RpKv K ca H kvs ps
def SlAt (D : DC) (ca : CA) (H : Hp) (v : V) : Sl → Prop
  | .fz w => Rp D.K ca H w v
  | .ow xs => ∃ p, v = .ref p ∧ D.H0 p = none ∧ OwnAt D.K ca H p (.ow xs)
  | .od kvs => ∃ p, v = .ref p ∧ D.H0 p = none ∧ OwnAt D.K ca H p (.od kvs)
def Sl.isOwn : Option (Option Sl) → Bool
  | some (some (.ow _)) => true
  | some (some (.od _)) => true
  | _ => false

structure Rel (D : DC) (ca : CA) (σ : L2.St) (H : Hp) (ms : MS) : Prop where
  len : if D.st = true then ms.cells.length = ca.length else ms.cells = [] ∧ ca = D.ca0
  cells : ∀ (k : Nat) (c : Cell) (as : List Addr), ms.cells[k]? = some c → ca[k]? = some as → CellAt D.K ca H c as
  nd : ca.flatten.Nodup
  pre : D.ca0 <+: ca
  fr : ∀ b o, D.H0 b = some o → (D.st = true → b ∉ D.ca0.flatten) → H b = some o
  new : ∀ b, b ∈ (ca.drop D.ca0.length).flatten → D.H0 b = none
  slen : ms.env.length = σ.length
  slots : ∀ (i : Nat) (x : Sl), ms.env[i]? = some (some x) → ∃ v, σ[i]? = some (some v) ∧ SlAt D ca H v x
  sep : ∀ (i j : Nat) (v : V), i ≠ j → Sl.isOwn ms.env[i]? = true → Sl.isOwn ms.env[j]? = true → σ[i]? = some (some v) → σ[j]? ≠ some (some v)
  c0 : ∀ b, b ∈ D.ca0.flatten → ∃ o, D.H0 b = some o
  oca : ∀ (i : Nat) (p : Addr), Sl.isOwn ms.env[i]? = true → σ[i]? = some (some (.ref p)) → p ∉ ca.flatten

theorem CellAt.grow {K : PySem.W.Frag} {ca : CA} {H H' : Hp} (g : Same H H') : ∀ {c : Cell} {as : List Addr}, CellAt K ca H c as → CellAt K ca H' c as
  | .draw _ _ _ _, _, ⟨s, c, l, e, h1, h2, h3⟩ => ⟨s, c, l, e, g _ _ h1, g _ _ h2, g _ _ h3⟩
  | .inst _ _, _, ⟨x, dx, fs', e, h1, h2, h3⟩ => ⟨x, dx, fs', e, g _ _ h1, g _ _ h2, RpFs.mono (.of_same g) _ _ h3⟩
theorem SlAt.grow {D : DC} {ca : CA} {H H' : Hp} {v : V} (g : Same H H') : ∀ {x : Sl}, SlAt D ca H v x → SlAt D ca H' v x
  | .fz w, h => Rp.mono (.of_same g) _ _ h
  | .ow xs, ⟨p, e, h0, vs, h2, h3⟩ => ⟨p, e, h0, vs, g _ _ h2, RpAll.mono (.of_same g) _ _ h3⟩
  | .od xs, ⟨p, e, h0, vs, h2, h3⟩ => ⟨p, e, h0, vs, g _ _ h2, RpKv.mono (.of_same g) _ _ h3⟩
theorem Rel.grow {D : DC} {ca : CA} {σ : L2.St} {H H' : Hp} {ms : MS} (r : Rel D ca σ H ms) (g : Same H H') : Rel D ca σ H' ms :=
  ⟨r.len, fun k c as h1 h2 => (r.cells k c as h1 h2).grow g, r.nd, r.pre, fun b o h1 h2 => g _ _ (r.fr b o h1 h2), r.new, r.slen,
    fun i x h => let ⟨v, e, q⟩ := r.slots i x h; ⟨v, e, q.grow g⟩, r.sep, r.c0, r.oca⟩

/-- an exception's own dict -/
def ErrAt (K : PySem.W.Frag) (ca : CA) (H : Hp) (c : Str) (fs : List (Str × W)) (cls : Value) (d : Option Addr) : Prop :=
  cls = .ref (He.ga K c) ∧ ∃ dd fs', d = some dd ∧ H dd = some (.xd fs') ∧ RpFs K ca H fs fs'

def Po (D : DC) (Wx : WX) (σ : L2.St) (ca : CA) (H : Hp) {α : Type} (r : R α) (P : α → MS → Prop) : Prop :=
  match r with
  | .ok a ms => P a ms
  | .err c fs ms => ∀ cls d σ' ca' H', Ext ca H ca' H' → Rel D ca' σ' H' ms → ErrAt D.K ca' H' c fs cls d → Wx cls d σ' H'
  | .bad => False
theorem Po.imp {D : DC} {Wx : WX} {σ : L2.St} {ca : CA} {H : Hp} {α : Type} {r : R α} {P P' : α → MS → Prop} (h : Po D Wx σ ca H r P) (f : ∀ a m, P a m → P' a m) : Po D Wx σ ca H r P' := by
  cases r with
  | ok a m => exact f a m h
  | err c fs m => exact h
  | bad => exact h
theorem Po.ext {D : DC} {Wx : WX} {σ : L2.St} {ca ca1 : CA} {H H1 : Hp} {α : Type} {r : R α} {P : α → MS → Prop} (x : Ext ca H ca1 H1) (h : Po D Wx σ ca H r P) : Po D Wx σ ca1 H1 r P := by
  cases r with
  | ok a m => exact h
  | err c fs m => exact fun cls d σ' ca' H' x' rl e => h cls d σ' ca' H' (x.trans x') rl e
  | bad => exact h
/-- what is wanted behind an expression -/
def EQ (D : DC) (σ : L2.St) (ca : CA) (H : Hp) (Q : VK) (w : W) (ms' : MS) : Prop := ∀ v ca' H', Ext ca H ca' H' → Rel D ca' σ H' ms' → Rp D.K ca' H' w v → Q v H'
def RdE (D : DC) (Wx : WX) (m : EM) : TE := fun σ H Q => ∃ ca ms, Rel D ca σ H ms ∧ Po D Wx σ ca H (m ms) (EQ D σ ca H Q)
def RdT (D : DC) (Wx : WX) (m : TM) : TT := fun σ H Q => ∃ ca ms, Rel D ca σ H ms ∧ Po D Wx σ ca H (m ms) (fun b ms' => ∀ ca' H', Ext ca H ca' H' → Rel D ca' σ H' ms' → Q b H')
def RdS (D : DC) (Wx : WX) (m : SM) : TS := fun Q σ H => ∃ ca ms, Rel D ca σ H ms ∧ Po D Wx σ ca H (m ms) (fun f ms' => match f with
  | .next => ∀ σ' ca' H', Ext ca H ca' H' → Rel D ca' σ' H' ms' → Q.nx σ' H'
  | .brk => ∀ σ' ca' H', Ext ca H ca' H' → Rel D ca' σ' H' ms' → Q.bk σ' H'
  | .cont => ∀ σ' ca' H', Ext ca H ca' H' → Rel D ca' σ' H' ms' → Q.ct σ' H'
  | .ret w => ∀ v σ' ca' H', Ext ca H ca' H' → Rel D ca' σ' H' ms' → Rp D.K ca' H' w v → Q.rt v H')
def DE (D : DC) (Wx : WX) (X : Cx) (e : Expr) (m : EM) : Prop := PE X e (RdE D Wx m)
def DT (D : DC) (Wx : WX) (X : Cx) (e : Expr) (m : TM) : Prop := PT X e (RdT D Wx m)
def DW (D : DC) (Wx : WX) (X : Cx) (e : Expr) (m : TM) : Prop := PW X e (RdT D Wx m)
def DS (D : DC) (Wx : WX) (X : Cx) (e : Stmt) (m : SM) : Prop := PS X e (RdS D Wx m)
def DSs (D : DC) (Wx : WX) (X : Cx) (e : List Stmt) (m : SM) : Prop := PSs X e (RdS D Wx m)

theorem PE.mono {X : Cx} {e : Expr} {t t' : TE} (h : PE X e t) (f : ∀ σ H Q, t' σ H Q → t σ H Q) : PE X e t' := ⟨fun pins s σ H Q I hw => h.run pins s σ H Q I (f σ H Q hw)⟩
theorem PT.mono {X : Cx} {e : Expr} {t t' : TT} (h : PT X e t) (f : ∀ σ H Q, t' σ H Q → t σ H Q) : PT X e t' := ⟨fun pins s σ H Q I hw => h.run pins s σ H Q I (f σ H Q hw)⟩
theorem PW.mono {X : Cx} {e : Expr} {t t' : TT} (h : PW X e t) (f : ∀ σ H Q, t' σ H Q → t σ H Q) : PW X e t' := ⟨fun wh pins s σ H Q I hw => h.run wh pins s σ H Q I (f σ H Q hw)⟩
theorem PS.mono {X : Cx} {e : Stmt} {t t' : TS} (h : PS X e t) (f : ∀ D σ H, t' D σ H → t D σ H) : PS X e t' := ⟨fun pins s σ H Q I hw => h.run pins s σ H Q I (f Q σ H hw)⟩
theorem PSs.mono {X : Cx} {e : List Stmt} {t t' : TS} (h : PSs X e t) (f : ∀ D σ H, t' D σ H → t D σ H) : PSs X e t' := ⟨fun pins s σ H Q I hw => h.run pins s σ H Q I (f Q σ H hw)⟩
theorem PA.mono {X : Cx} {e : List Expr} {t t' : TA} (h : PA X e t) (f : ∀ σ H Q, t' σ H Q → t σ H Q) : PA X e t' := ⟨fun p pins s σ H Q I hw => h.run p pins s σ H Q I (f σ H Q hw)⟩

/-- behind the first of two: what is known, and what is left -/
theorem RdE.bind {D : DC} {Wx : WX} {σ : L2.St} {ca : CA} {H : Hp} {ms : MS} {ma : EM} {β : Type} {f : W → MS → R β} {P : β → MS → Prop} {Q : VK} (r : Rel D ca σ H ms) (h : Po D Wx σ ca H ((ma ms).bind f) P)
    (q : ∀ w v ms1 ca1 H1, Ext ca H ca1 H1 → Rel D ca1 σ H1 ms1 → Rp D.K ca1 H1 w v → Po D Wx σ ca H (f w ms1) P → Q v H1) : RdE D Wx ma σ H Q := by
  refine ⟨ca, ms, r, ?_⟩
  cases e : ma ms with
  | ok w ms1 =>
    rw [e] at h
    exact fun v ca1 H1 x1 r1 p1 => q w v ms1 ca1 H1 x1 r1 p1 h
  | err c fs m =>
    rw [e] at h
    exact h
  | bad =>
    rw [e] at h
    exact h
theorem RdT.bind {D : DC} {Wx : WX} {σ : L2.St} {ca : CA} {H : Hp} {ms : MS} {ma : TM} {β : Type} {f : Bool → MS → R β} {P : β → MS → Prop} {Q : Bool → Hp → Prop} (r : Rel D ca σ H ms) (h : Po D Wx σ ca H ((ma ms).bind f) P)
    (q : ∀ b ms1 ca1 H1, Ext ca H ca1 H1 → Rel D ca1 σ H1 ms1 → Po D Wx σ ca H (f b ms1) P → Q b H1) : RdT D Wx ma σ H Q := by
  refine ⟨ca, ms, r, ?_⟩
  cases e : ma ms with
  | ok w ms1 =>
    rw [e] at h
    exact fun ca1 H1 x1 r1 => q w ms1 ca1 H1 x1 r1 h
  | err c fs m =>
    rw [e] at h
    exact h
  | bad =>
    rw [e] at h
    exact h

/-! ### names, constants -/
def eVar (i : Nat) : EM := fun m => match m.env[i]? with
  | some (some (.fz w)) => .ok w m
  | _ => .bad
theorem de_var {D : DC} {Wx : WX} {X : Cx} {i : Nat} {x : Str} {pos : Pos} (hN : X.N[i]? = some x) (hv : Vis X.env.scope x) (hd : (x == ("__debug__" : Str)) = false := by decide) (hcd : (x == ("__classdict__" : Str)) = false := by decide) : DE D Wx X (.Name x pos) (eVar i) :=
  PE.mono (pe_var hN hv hd hcd) fun σ H Q ⟨ca, ms, r, h⟩ => by
    unfold eVar at h
    cases e : ms.env[i]? with
    | none => rw [e] at h; exact h.elim
    | some o =>
      cases o with
      | none => rw [e] at h; exact h.elim
      | some x =>
        cases x with
        | fz w =>
          rw [e] at h
          obtain ⟨v, e1, q⟩ := r.slots i _ e
          exact ⟨v, e1, h v ca H (.refl _ _) r q⟩
        | ow xs => rw [e] at h; exact h.elim
        | od xs => rw [e] at h; exact h.elim
def eC (w : W) : EM := fun m => .ok w m
theorem de_int {D : DC} {Wx : WX} {X : Cx} {i j pos} : DE D Wx X (.Constant (.int i) j pos) (eC (.int i)) := PE.mono pe_int fun σ H Q ⟨ca, ms, r, h⟩ => h _ ca H (.refl _ _) r (by simp only [Rp])
theorem de_bl {D : DC} {Wx : WX} {X : Cx} {i j pos} : DE D Wx X (.Constant (.bool i) j pos) (eC (.bool i)) := PE.mono pe_bl fun σ H Q ⟨ca, ms, r, h⟩ => h _ ca H (.refl _ _) r (by simp only [Rp])
theorem de_non {D : DC} {Wx : WX} {X : Cx} {j pos} : DE D Wx X (.Constant .none j pos) (eC .none) := PE.mono pe_non fun σ H Q ⟨ca, ms, r, h⟩ => h _ ca H (.refl _ _) r (by simp only [Rp])
theorem de_str {D : DC} {Wx : WX} {X : Cx} {i j pos} : DE D Wx X (.Constant (.str i) j pos) (eC (.str i)) := PE.mono pe_str fun σ H Q ⟨ca, ms, r, h⟩ => h _ ca H (.refl _ _) r (by simp only [Rp])
/-- a constant of the module -/
theorem de_glob {D : DC} {Wx : WX} {X : Cx} {x : Str} {v : V} {u : Value} {w : W} {pos : Pos} (hg : Gl X x) (hm : X.mg x = some u) (r : RelV v u) (hw : ∀ ca H, Rp D.K ca H w v) (hd : (x == ("__debug__" : Str)) = false := by decide) : DE D Wx X (.Name x pos) (eC w) :=
  PE.mono (pe_glob hg hm r hd) fun σ H Q ⟨ca, ms, r, h⟩ => h _ ca H (.refl _ _) r (hw ca H)

/-! ### two-place operations -/
/-- values in, a value out, the heap grows -/
def DOp (D : DC) (X : Cx) (f : Value → Value → Sem Value) (g : W → W → Option W) : Prop :=
  ∀ (pins : List (Addr × Obj)) (s : Shared) (σ : L2.St) (ca : CA) (H : Hp) (x y : V) (u1 u2 : Value) (wx wy w : W) (Q : VK), Inv X pins σ H s → RelV x u1 → RelV y u2 → Rp D.K ca H wx x → Rp D.K ca H wy y → g wx wy = some w →
    (∀ v H', Same H H' → Rp D.K ca H' w v → Q v H') → wpAny (model X.prog X.w) X.A (f u1 u2) (EP X pins σ Q) X.xe s
def opt {α : Type} (o : Option α) (m : MS) : R α := match o with
  | some a => .ok a m
  | none => .bad
theorem Po.opt {D : DC} {Wx : WX} {σ : L2.St} {ca : CA} {H : Hp} {α : Type} {o : Option α} {m : MS} {P : α → MS → Prop} (h : Po D Wx σ ca H (DL.opt o m) P) : ∃ a, o = some a ∧ P a m := by
  cases o with
  | none => exact h.elim
  | some a => exact ⟨a, rfl, h⟩
def eBin (g : W → W → Option W) (a b : EM) : EM := fun m => (a m).bind fun x m => (b m).bind fun y m => opt (g x y) m
theorem RdE.two {D : DC} {Wx : WX} {σ : L2.St} {H : Hp} {Q : VK} {g : W → W → Option W} {ma mb : EM} (h : RdE D Wx (eBin g ma mb) σ H Q) :
    RdE D Wx ma σ H fun x H1 => RdE D Wx mb σ H1 fun y H2 => ∃ ca wx wy w, Rp D.K ca H2 wx x ∧ Rp D.K ca H2 wy y ∧ g wx wy = some w ∧ ∀ v H', Same H2 H' → Rp D.K ca H' w v → Q v H' := by
  obtain ⟨ca, ms, r, h⟩ := h
  refine RdE.bind r h fun wx x ms1 ca1 H1 x1 r1 p1 h1 => ?_
  refine RdE.bind r1 (h1.ext x1) fun wy y ms2 ca2 H2 x2 r2 p2 h2 => ?_
  obtain ⟨w, e, q⟩ := Po.opt h2
  exact ⟨ca2, wx, wy, w, Rp.mono x2 _ _ p1, p2, e, fun v H' g p => q v ca2 H' ((x1.trans x2).trans (.of_same g)) (r2.grow g) p⟩
theorem de_op {D : DC} {Wx : WX} {X : Cx} {op : Operator} {a b : Expr} {ma mb : EM} {g : W → W → Option W} {pos : Pos} (ho : DOp D X (binaryOp op) g) (ha : DE D Wx X a ma) (hb : DE D Wx X b mb) : DE D Wx X (.BinOp a op b pos) (eBin g ma mb) := by
  refine ⟨fun pins s σ H Q I h => ?_⟩
  exact wpAny_BinOp (binT ha hb I h.two fun v u s2 x y H2 I2 rx ry ⟨ca, wx, wy, w, p1, p2, e, q⟩ => ho pins s2 σ ca H2 x y v u wx wy w Q I2 rx ry p1 p2 e q)
theorem de_cmp {D : DC} {Wx : WX} {X : Cx} {op : CmpOp} {a b : Expr} {ma mb : EM} {g : W → W → Option W} {pos : Pos} (ho : DOp D X (compareOp op) g) (ha : DE D Wx X a ma) (hb : DE D Wx X b mb) (hm : behindInMarks op b = false) : DE D Wx X (.Compare a [op] [b] pos) (eBin g ma mb) := by
  refine ⟨fun pins s σ H Q I h => ?_⟩
  refine wpAny_Compare1 (binT ha hb I h.two fun v u s2 x y H2 I2 rx ry ⟨ca, wx, wy, w, p1, p2, e, q⟩ => ho pins s2 σ ca H2 x y v u wx wy w Q I2 rx ry p1 p2 e q) hm
/-- from a rule of the layer below -/
theorem dop_of {D : DC} {X : Cx} {f : Value → Value → Sem Value} {g : W → W → Option W} {r : R2} (ho : OpR X f r) (h : ∀ ca H x y wx wy w Q, Rp D.K ca H wx x → Rp D.K ca H wy y → g wx wy = some w → (∀ v H', Same H H' → Rp D.K ca H' w v → Q v H') → r x y H Q) : DOp D X f g :=
  fun pins s σ ca H x y u1 u2 wx wy w Q I r1 r2 p1 p2 e q => ho pins s σ H x y u1 u2 Q I r1 r2 (h ca H x y wx wy w Q p1 p2 e q)

def tw (o : Option Bool) : Option W := o.map .bool
/-- an expression whose value is a bool, as a test -/
def tVal (a : EM) : TM := fun m => (a m).bind fun x m => match x with
  | .bool b => .ok b m
  | _ => .bad
theorem dt_val {D : DC} {Wx : WX} {X : Cx} {e : Expr} {m : EM} (h : DE D Wx X e m) (he : ∀ whole, isTrue e X.env whole = (do let v ← whole; standAt e.pos; holding [v] (truthy v)) := by intro _; rfl) : DT D Wx X e (tVal m) :=
  PT.mono (pt_val h he) fun σ H Q ⟨ca, ms, r, h⟩ => by
    refine RdE.bind r h fun w v ms1 ca1 H1 x1 r1 p1 h1 => ?_
    cases w with
    | bool b =>
      simp only [Rp] at p1
      exact ⟨b, p1, h1 ca1 H1 x1 r1⟩
    | _ => exact h1.elim
theorem dt_cmp {D : DC} {Wx : WX} {X : Cx} {op : CmpOp} {a b : Expr} {ma mb : EM} {g : W → W → Option W} {pos : Pos} (ho : DOp D X (compareOp op) g) (ha : DE D Wx X a ma) (hb : DE D Wx X b mb) (hm : behindInMarks op b = false) : DT D Wx X (.Compare a [op] [b] pos) (tVal (eBin g ma mb)) := by
  refine ⟨fun pins s σ H Q I h => ?_⟩
  have h' : RdE D Wx (eBin g ma mb) σ H fun v H1 => ∃ k, v = .bl k ∧ Q k H1 := by
    obtain ⟨ca, ms, r, h⟩ := h
    refine RdE.bind r h fun w v ms1 ca1 H1 x1 r1 p1 h1 => ?_
    cases w with
    | bool b =>
      simp only [Rp] at p1
      exact ⟨b, p1, h1 ca1 H1 x1 r1⟩
    | _ => exact h1.elim
  refine wpAny_isTrue_Compare1 (binT ha hb I h'.two fun v u s2 x y H2 I2 rx ry ⟨ca, wx, wy, w, p1, p2, e, q⟩ => thn (ho pins s2 σ ca H2 x y v u wx wy w _ I2 rx ry p1 p2 e q) fun z s3 ⟨zv, H3, I3, r3, k, e3, q3⟩ => ?_) hm
  subst e3
  cases r3
  exact wpAny_truthy_bool ⟨H3, I3, q3⟩
/-! ### and, or, not, if -/
def tAnd (a b : TM) : TM := fun m => (a m).bind fun x m => if x = true then b m else .ok false m
def tOr (a b : TM) : TM := fun m => (a m).bind fun x m => if x = true then .ok true m else b m
def tNot (a : TM) : TM := fun m => (a m).bind fun x m => .ok (!x) m
section
variable {D : DC} {Wx : WX} {X : Cx} {a b c : Expr} {rest : List Expr} {pos : Pos} {ma mb : TM} {ea eb : EM}
theorem dw_and1 (ha : DT D Wx X a ma) : DW D Wx X (.BoolOp .And [a] pos) ma := pw_and1 ha
theorem dw_or1 (ha : DT D Wx X a ma) : DW D Wx X (.BoolOp .Or [a] pos) ma := pw_or1 ha
theorem dw_and (ha : DT D Wx X a ma) (hb : DW D Wx X (.BoolOp .And (b :: rest) pos) mb) : DW D Wx X (.BoolOp .And (a :: b :: rest) pos) (tAnd ma mb) :=
  PW.mono (pw_and ha hb) fun σ H Q ⟨ca, ms, r, h⟩ => RdT.bind r h fun k ms1 ca1 H1 x1 r1 h1 => by
    cases k with
    | true => exact ⟨ca1, ms1, r1, (h1.ext x1).imp fun k' ms' q ca' H' x' => q ca' H' (x1.trans x')⟩
    | false => exact h1 ca1 H1 x1 r1
theorem dw_or (ha : DT D Wx X a ma) (hb : DW D Wx X (.BoolOp .Or (b :: rest) pos) mb) : DW D Wx X (.BoolOp .Or (a :: b :: rest) pos) (tOr ma mb) :=
  PW.mono (pw_or ha hb) fun σ H Q ⟨ca, ms, r, h⟩ => RdT.bind r h fun k ms1 ca1 H1 x1 r1 h1 => by
    cases k with
    | false => exact ⟨ca1, ms1, r1, (h1.ext x1).imp fun k' ms' q ca' H' x' => q ca' H' (x1.trans x')⟩
    | true => exact h1 ca1 H1 x1 r1
theorem DW.pt (h : DW D Wx X a ma) : DT D Wx X a ma := PW.pt h
theorem dt_not (ha : DT D Wx X a ma) : DT D Wx X (.UnaryOp .Not a pos) (tNot ma) :=
  PT.mono (pt_not ha) fun σ H Q ⟨ca, ms, r, h⟩ => RdT.bind r h fun k ms1 ca1 H1 x1 r1 h1 => h1 ca1 H1 x1 r1
/-- as values -/
def eAnd (a b : EM) : EM := fun m => (a m).bind fun x m => match x with
  | .bool true => b m
  | .bool false => .ok (.bool false) m
  | _ => .bad
def eOr (a b : EM) : EM := fun m => (a m).bind fun x m => match x with
  | .bool false => b m
  | .bool true => .ok (.bool true) m
  | _ => .bad
def eNot (a : EM) : EM := fun m => (a m).bind fun x m => match x with
  | .bool b => .ok (.bool (!b)) m
  | _ => .bad
def eIf (t : TM) (a b : EM) : EM := fun m => (t m).bind fun x m => if x = true then a m else b m
theorem EQ.go {σ : L2.St} {ca ca1 : CA} {H H1 : Hp} {Q : VK} {r : R W} (x : Ext ca H ca1 H1) (h : Po D Wx σ ca H r (EQ D σ ca H Q)) : Po D Wx σ ca1 H1 r (EQ D σ ca1 H1 Q) :=
  (h.ext x).imp fun w ms' q v ca' H' x' => q v ca' H' (x.trans x')
theorem de_one {op} (h : DE D Wx X a ea) : DE D Wx X (.BoolOp op [a] pos) ea := pe_one h
theorem de_and (ha : DE D Wx X a ea) (hb : DE D Wx X (.BoolOp .And (b :: rest) pos) eb) : DE D Wx X (.BoolOp .And (a :: b :: rest) pos) (eAnd ea eb) :=
  PE.mono (pe_and ha hb) fun σ H Q ⟨ca, ms, r, h⟩ => RdE.bind r h fun w v ms1 ca1 H1 x1 r1 p1 h1 => by
    cases w with
    | bool k =>
      simp only [Rp] at p1
      refine ⟨k, p1, ?_⟩
      cases k with
      | true => exact ⟨ca1, ms1, r1, EQ.go x1 h1⟩
      | false => exact h1 _ ca1 H1 x1 r1 (by simp only [Rp])
    | _ => exact h1.elim
theorem de_or (ha : DE D Wx X a ea) (hb : DE D Wx X (.BoolOp .Or (b :: rest) pos) eb) : DE D Wx X (.BoolOp .Or (a :: b :: rest) pos) (eOr ea eb) :=
  PE.mono (pe_or ha hb) fun σ H Q ⟨ca, ms, r, h⟩ => RdE.bind r h fun w v ms1 ca1 H1 x1 r1 p1 h1 => by
    cases w with
    | bool k =>
      simp only [Rp] at p1
      refine ⟨k, p1, ?_⟩
      cases k with
      | false => exact ⟨ca1, ms1, r1, EQ.go x1 h1⟩
      | true => exact h1 _ ca1 H1 x1 r1 (by simp only [Rp])
    | _ => exact h1.elim
theorem de_not (ha : DE D Wx X a ea) : DE D Wx X (.UnaryOp .Not a pos) (eNot ea) :=
  PE.mono (pe_not ha) fun σ H Q ⟨ca, ms, r, h⟩ => RdE.bind r h fun w v ms1 ca1 H1 x1 r1 p1 h1 => by
    cases w with
    | bool k =>
      simp only [Rp] at p1
      exact ⟨k, p1, h1 _ ca1 H1 x1 r1 (by simp only [Rp])⟩
    | _ => exact h1.elim
theorem de_if (hc : DT D Wx X c ma) (ha : DE D Wx X a ea) (hb : DE D Wx X b eb) : DE D Wx X (.IfExp c a b pos) (eIf ma ea eb) :=
  PE.mono (pe_ifExp hc ha hb) fun σ H Q ⟨ca, ms, r, h⟩ => RdT.bind r h fun k ms1 ca1 H1 x1 r1 h1 => by
    cases k with
    | true => exact ⟨ca1, ms1, r1, EQ.go x1 h1⟩
    | false => exact ⟨ca1, ms1, r1, EQ.go x1 h1⟩
end
end DL
namespace DL
open PySem PySem.Spec PyProof.Rows L2

/-! ### argument lists -/
abbrev LM := MS → R (List W)
def RdA (D : DC) (Wx : WX) (m : LM) : TA := fun σ H Q => ∃ ca ms, Rel D ca σ H ms ∧ Po D Wx σ ca H (m ms) (fun ws ms' => ∀ vs ca' H', Ext ca H ca' H' → Rel D ca' σ H' ms' → RpAll D.K ca' H' ws vs → Q vs H')
def DA (D : DC) (Wx : WX) (X : Cx) (es : List Expr) (m : LM) : Prop := PA X es (RdA D Wx m)
theorem RdA.bind {D : DC} {Wx : WX} {σ : L2.St} {ca : CA} {H : Hp} {ms : MS} {ma : LM} {β : Type} {f : List W → MS → R β} {P : β → MS → Prop} {Q : List V → Hp → Prop} (r : Rel D ca σ H ms) (h : Po D Wx σ ca H ((ma ms).bind f) P)
    (q : ∀ ws vs ms1 ca1 H1, Ext ca H ca1 H1 → Rel D ca1 σ H1 ms1 → RpAll D.K ca1 H1 ws vs → Po D Wx σ ca H (f ws ms1) P → Q vs H1) : RdA D Wx ma σ H Q := by
  refine ⟨ca, ms, r, ?_⟩
  cases e : ma ms with
  | ok w ms1 =>
    rw [e] at h
    exact fun vs ca1 H1 x1 r1 p1 => q w vs ms1 ca1 H1 x1 r1 p1 h
  | err c fs m =>
    rw [e] at h
    exact h
  | bad =>
    rw [e] at h
    exact h
def aNil : LM := fun m => .ok [] m
def aCons (a : EM) (r : LM) : LM := fun m => (a m).bind fun x m => (r m).bind fun xs m => .ok (x :: xs) m
def itemsOf : W → Option (List W)
  | .tuple xs => some xs
  | .list xs => some xs
  | _ => none
def aStar (a : EM) (r : LM) : LM := fun m => (a m).bind fun x m => match itemsOf x with
  | some ys => (r m).bind fun xs m => .ok (ys ++ xs) m
  | none => .bad
theorem RpAll.append {K : PySem.W.Frag} {ca : CA} {H : Hp} : ∀ {xs ys : List W} {vs us : List V}, RpAll K ca H xs vs → RpAll K ca H ys us → RpAll K ca H (xs ++ ys) (vs ++ us)
  | [], ys, vs, us, h, h' => by simp only [RpAll] at h; subst h; exact h'
  | x :: xs, ys, vs, us, h, h' => by
    simp only [RpAll, List.cons_append] at h ⊢
    obtain ⟨v, r, rfl, h1, h2⟩ := h
    exact ⟨v, r ++ us, rfl, h1, RpAll.append h2 h'⟩
theorem RpAll.length {K : PySem.W.Frag} {ca : CA} {H : Hp} : ∀ {xs : List W} {vs : List V}, RpAll K ca H xs vs → vs.length = xs.length
  | [], vs, h => by simp only [RpAll] at h; subst h; rfl
  | x :: xs, vs, h => by
    simp only [RpAll] at h
    obtain ⟨v, r, rfl, h1, h2⟩ := h
    rw [List.length_cons, List.length_cons, h2.length]
theorem RpAll.get {K : PySem.W.Frag} {ca : CA} {H : Hp} : ∀ {xs : List W} {vs : List V} {i : Nat} {x : W}, RpAll K ca H xs vs → xs[i]? = some x → ∃ v, vs[i]? = some v ∧ Rp K ca H x v
  | [], vs, i, x, h, e => by simp at e
  | y :: xs, vs, i, x, h, e => by
    simp only [RpAll] at h
    obtain ⟨v, r, rfl, h1, h2⟩ := h
    cases i with
    | zero => simp at e; subst e; exact ⟨v, rfl, h1⟩
    | succ i =>
      obtain ⟨u, e1, e2⟩ := h2.get (i := i) (x := x) (by simpa using e)
      exact ⟨u, by simpa using e1, e2⟩
theorem RpAll.get' {K : PySem.W.Frag} {ca : CA} {H : Hp} : ∀ {xs : List W} {vs : List V} {i : Nat} {v : V}, RpAll K ca H xs vs → vs[i]? = some v → ∃ x, xs[i]? = some x ∧ Rp K ca H x v
  | [], vs, i, x, h, e => by simp only [RpAll] at h; subst h; simp at e
  | y :: xs, vs, i, x, h, e => by
    simp only [RpAll] at h
    obtain ⟨v, r, rfl, h1, h2⟩ := h
    cases i with
    | zero => simp at e; subst e; exact ⟨y, rfl, h1⟩
    | succ i =>
      obtain ⟨u, e1, e2⟩ := h2.get' (i := i) (v := x) (by simpa using e)
      exact ⟨u, by simpa using e1, e2⟩
theorem RpAll.take {K : PySem.W.Frag} {ca : CA} {H : Hp} : ∀ {xs : List W} {vs : List V} (n : Nat), RpAll K ca H xs vs → RpAll K ca H (xs.take n) (vs.take n)
  | _, _, 0, _ => by simp [RpAll]
  | [], vs, n + 1, h => by simp only [RpAll] at h; subst h; simp [RpAll]
  | x :: xs, vs, n + 1, h => by
    simp only [RpAll] at h
    obtain ⟨v, r, rfl, h1, h2⟩ := h
    simp only [List.take_succ_cons, RpAll]
    exact ⟨v, _, rfl, h1, h2.take n⟩
theorem RpAll.drop {K : PySem.W.Frag} {ca : CA} {H : Hp} : ∀ {xs : List W} {vs : List V} (n : Nat), RpAll K ca H xs vs → RpAll K ca H (xs.drop n) (vs.drop n)
  | _, _, 0, h => h
  | [], vs, n + 1, h => by simp only [RpAll] at h; subst h; simp [RpAll]
  | x :: xs, vs, n + 1, h => by
    simp only [RpAll] at h
    obtain ⟨v, r, rfl, h1, h2⟩ := h
    simp only [List.drop_succ_cons]
    exact h2.drop n
theorem RpAll.set {K : PySem.W.Frag} {ca : CA} {H : Hp} {x : W} {v : V} (r : Rp K ca H x v) : ∀ {xs : List W} {vs : List V} (n : Nat), RpAll K ca H xs vs → RpAll K ca H (xs.set n x) (vs.set n v)
  | [], vs, n, h => by simp only [RpAll] at h; subst h; simp [RpAll]
  | y :: xs, vs, 0, h => by
    simp only [RpAll] at h
    obtain ⟨u, t, rfl, h1, h2⟩ := h
    simp only [List.set_cons_zero, RpAll]
    exact ⟨v, t, rfl, r, h2⟩
  | y :: xs, vs, n + 1, h => by
    simp only [RpAll] at h
    obtain ⟨u, t, rfl, h1, h2⟩ := h
    simp only [List.set_cons_succ, RpAll]
    exact ⟨u, _, rfl, h1, h2.set r n⟩
theorem RpAll.one {K : PySem.W.Frag} {ca : CA} {H : Hp} {x : W} {v : V} (r : Rp K ca H x v) : RpAll K ca H [x] [v] := by simp only [RpAll]; exact ⟨v, [], rfl, r, rfl⟩
theorem RpAll.rep {K : PySem.W.Frag} {ca : CA} {H : Hp} {xs : List W} {vs : List V} (r : RpAll K ca H xs vs) : ∀ n, RpAll K ca H (List.replicate n xs).flatten (List.replicate n vs).flatten
  | 0 => by simp [RpAll]
  | n + 1 => by
    simp only [List.replicate_succ, List.flatten_cons]
    exact r.append (RpAll.rep r n)
theorem RpAll.dropLast {K : PySem.W.Frag} {ca : CA} {H : Hp} {xs : List W} {vs : List V} (r : RpAll K ca H xs vs) : RpAll K ca H xs.dropLast vs.dropLast := by
  rw [List.dropLast_eq_take, List.dropLast_eq_take, r.length]
  exact r.take _
theorem RpAll.reverse {K : PySem.W.Frag} {ca : CA} {H : Hp} : ∀ {xs : List W} {vs : List V}, RpAll K ca H xs vs → RpAll K ca H xs.reverse vs.reverse
  | [], vs, h => by simp only [RpAll] at h; subst h; simp [RpAll]
  | x :: xs, vs, h => by
    simp only [RpAll] at h
    obtain ⟨v, r, rfl, h1, h2⟩ := h
    rw [List.reverse_cons, List.reverse_cons]
    exact h2.reverse.append (.one h1)
section
variable {D : DC} {Wx : WX} {X : Cx} {e : Expr} {es : List Expr} {ma : EM} {mr : LM} {pos : Pos}
theorem da_nil : DA D Wx X [] aNil := PA.mono pa_nil fun σ H Q ⟨ca, ms, r, h⟩ => h [] ca H (.refl _ _) r (by simp only [RpAll])
theorem da_cons (ha : DE D Wx X e ma) (hr : DA D Wx X es mr) (hs : starEach (e :: es) X.env = (false, eval e X.env) :: starEach es X.env := by rfl) : DA D Wx X (e :: es) (aCons ma mr) :=
  PA.mono (pa_cons ha hr hs) fun σ H Q ⟨ca, ms, r, h⟩ => RdE.bind r h fun w v ms1 ca1 H1 x1 r1 p1 h1 => RdA.bind r1 (h1.ext x1) fun ws vs ms2 ca2 H2 x2 r2 p2 h2 => by
    exact h2 (v :: vs) ca2 H2 (x1.trans x2) r2 (by simp only [RpAll]; exact ⟨v, vs, rfl, Rp.mono x2 _ _ p1, p2⟩)
theorem Rp.items {K : PySem.W.Frag} {ca : CA} {H : Hp} {w : W} {v : V} {ys : List W} (h : Rp K ca H w v) (e : itemsOf w = some ys) : ∃ p xs, v = .ref p ∧ (SqT K H p xs ∨ SqL K H p xs) ∧ RpAll K ca H ys xs := by
  cases w with
  | list zs =>
    simp only [Rp] at h
    obtain ⟨a, vs, rfl, f, r⟩ := h
    cases e
    exact ⟨a, vs, rfl, .inr f.sq, r⟩
  | tuple zs =>
    simp only [Rp] at h
    obtain ⟨a, vs, rfl, f, r⟩ := h
    cases e
    exact ⟨a, vs, rfl, .inl f.sq, r⟩
  | _ => cases e
theorem da_star {p : Pos} (hK : D.K = X.K) (ha : DE D Wx X e ma) (hr : DA D Wx X es mr) (hs : starEach (.Starred e p :: es) X.env = (true, eval e X.env) :: starEach es X.env := by rfl) : DA D Wx X (.Starred e p :: es) (aStar ma mr) :=
  PA.mono (StX.pa_star ha hr hs) fun σ H Q ⟨ca, ms, r, h⟩ => RdE.bind r h fun w v ms1 ca1 H1 x1 r1 p1 h1 => by
    cases ei : itemsOf w with
    | none => rw [ei] at h1; exact h1.elim
    | some ys =>
      rw [ei] at h1
      obtain ⟨p, xs, ev, hq, pa⟩ := Rp.items p1 ei
      exact ⟨p, xs, ev, by rw [← hK]; exact hq, RdA.bind r1 (h1.ext x1) fun ws vs ms2 ca2 H2 x2 r2 p2 h2 => h2 _ ca2 H2 (x1.trans x2) r2 ((RpAll.mono x2 _ _ pa).append p2)⟩
/-! ### displays -/
def szOk (n : Nat) : Bool := Nat.ble n 16777216
theorem szOk_le {n : Nat} (h : szOk n = true) : n ≤ sizeLine := by rw [sizeLine_eq]; exact Nat.le_of_ble_eq_true h
def eTup (l : LM) : EM := fun m => (l m).bind fun ws m => if szOk ws.length = true then .ok (.tuple ws) m else .bad
theorem de_tup {x1} (h : DA D Wx X es mr) : DE D Wx X (.Tuple es x1 pos) (eTup mr) :=
  PE.mono (pe_tup h) fun σ H Q ⟨ca, ms, r, h⟩ => RdA.bind r h fun ws vs ms1 ca1 H1 x1 r1 p1 h1 => by
    by_cases hz : szOk ws.length = true
    · rw [if_pos hz] at h1
      refine ⟨by rw [p1.length]; exact szOk_le hz, fun p np => ?_⟩
      have g : Same H1 (upd H1 p (.tup vs)) := Same.upd_new np
      exact h1 _ ca1 _ (x1.trans (.of_same g)) (r1.grow g) (by simp only [Rp]; exact ⟨p, vs, rfl, .inl upd_same, RpAll.mono (.of_same g) _ _ p1⟩)
    · rw [if_neg hz] at h1
      exact h1.elim
/-- a new list that nobody else knows -/
def FQ (D : DC) (σ : L2.St) (ca : CA) (H : Hp) (Q : VK) (xs : List W) (ms' : MS) : Prop := ∀ p vs ca' H', Ext ca H ca' H' → Rel D ca' σ H' ms' → H' p = none → RpAll D.K ca' H' xs vs → Q (.ref p) (upd H' p (.lst vs))
def RdF (D : DC) (Wx : WX) (m : LM) : TE := fun σ H Q => ∃ ca ms, Rel D ca σ H ms ∧ Po D Wx σ ca H (m ms) (FQ D σ ca H Q)
def DF (D : DC) (Wx : WX) (X : Cx) (e : Expr) (m : LM) : Prop := PE X e (RdF D Wx m)
def fLst (l : LM) : LM := fun m => (l m).bind fun ws m => if szOk ws.length = true then .ok ws m else .bad
theorem df_lst (h : DA D Wx X es mr) : DF D Wx X (.List es pos) (fLst mr) :=
  PE.mono (pe_lst h) fun σ H Q ⟨ca, ms, r, h⟩ => RdA.bind r h fun ws vs ms1 ca1 H1 x1 r1 p1 h1 => by
    by_cases hz : szOk ws.length = true
    · rw [if_pos hz] at h1
      have hz' := szOk_le hz
      refine ⟨by rw [p1.length]; exact hz', fun p np => ?_⟩
      exact h1 p vs ca1 H1 x1 r1 np p1
    · rw [if_neg hz] at h1
      exact h1.elim
/-- the list is frozen at once -/
theorem pe_freeze {t : TE} (h : PE X e t) : PE X e (fun σ H Q => t σ H fun v H' => ∃ p vs, v = .ref p ∧ H' p = some (.lst vs) ∧ ∀ o, Q v (upd H' p (.frz o (.lst vs)))) :=
  ⟨fun pins s σ H Q I hw => thn (h.run pins s σ H _ I hw) fun u s1 ⟨v, H', I1, rv, p, vs, ev, hp, q⟩ => by
    obtain ⟨od, I2⟩ := I1.lock hp trivial
    exact ⟨v, _, I2, rv, q od⟩⟩
def eFz (l : LM) : EM := fun m => (l m).bind fun ws m => .ok (.list ws) m
theorem upd_upd_same {H : Hp} {p : Addr} {o u : HO} : upd (upd H p o) p u = upd H p u := upd_upd
theorem de_fz (h : DF D Wx X e mr) : DE D Wx X e (eFz mr) :=
  PE.mono (pe_freeze h) fun σ H Q ⟨ca, ms, r, h⟩ => by
    refine ⟨ca, ms, r, ?_⟩
    unfold eFz at h
    cases e : mr ms with
    | ok ws ms1 =>
      rw [e] at h
      refine fun p vs ca' H' x1 r1 np p1 => ⟨p, vs, rfl, upd_same, fun o => ?_⟩
      rw [upd_upd]
      have g : Same H' (upd H' p (.frz o (.lst vs))) := Same.upd_new np
      exact h _ ca' _ (x1.trans (.of_same g)) (r1.grow g) (by simp only [Rp]; exact ⟨p, vs, rfl, .inl ⟨o, upd_same⟩, RpAll.mono (.of_same g) _ _ p1⟩)
    | err c fs m =>
      rw [e] at h
      exact h
    | bad =>
      rw [e] at h
      exact h
end
/-! ### one-place calls of built-ins -/
/-- values in, a value out, the heap grows -/
def DCall (D : DC) (X : Cx) (f : Value) (g : List W → Option W) : Prop :=
  ∀ (pins : List (Addr × Obj)) (s : Shared) (σ : L2.St) (ca : CA) (H : Hp) (xs : List V) (us : List Value) (ws : List W) (w : W) (Q : VK), Inv X pins σ H s → Vals xs us → RpAll D.K ca H ws xs → g ws = some w →
    (∀ v H', Same H H' → Rp D.K ca H' w v → Q v H') → wpAny (model X.prog X.w) X.A (call f us) (EP X pins σ Q) X.xe s
/-- values in, a new list out -/
def DCallF (D : DC) (X : Cx) (f : Value) (g : List W → Option (List W)) : Prop :=
  ∀ (pins : List (Addr × Obj)) (s : Shared) (σ : L2.St) (ca : CA) (H : Hp) (xs : List V) (us : List Value) (ws w : List W) (Q : VK), Inv X pins σ H s → Vals xs us → RpAll D.K ca H ws xs → g ws = some w →
    (∀ p vs, H p = none → RpAll D.K ca H w vs → Q (.ref p) (upd H p (.lst vs))) → wpAny (model X.prog X.w) X.A (call f us) (EP X pins σ Q) X.xe s
def eOf (g : List W → Option W) (l : LM) : EM := fun m => (l m).bind fun ws m => opt (g ws) m
def fOf (g : List W → Option (List W)) (l : LM) : LM := fun m => (l m).bind fun ws m => opt (g ws) m
theorem RdA.opt {D : DC} {Wx : WX} {σ : L2.St} {H : Hp} {Q : VK} {g : List W → Option W} {l : LM} (h : RdE D Wx (eOf g l) σ H Q) :
    RdA D Wx l σ H fun vs H1 => ∃ ca ws w, RpAll D.K ca H1 ws vs ∧ g ws = some w ∧ ∀ v H', Same H1 H' → Rp D.K ca H' w v → Q v H' := by
  obtain ⟨ca, ms, r, h⟩ := h
  refine RdA.bind r h fun ws vs ms1 ca1 H1 x1 r1 p1 h1 => ?_
  obtain ⟨w, e, q⟩ := Po.opt h1
  exact ⟨ca1, ws, w, p1, e, fun v H' g p => q v ca1 H' (x1.trans (.of_same g)) (r1.grow g) p⟩
theorem RdA.optF {D : DC} {Wx : WX} {σ : L2.St} {H : Hp} {Q : VK} {g : List W → Option (List W)} {l : LM} (h : RdF D Wx (fOf g l) σ H Q) :
    RdA D Wx l σ H fun vs H1 => ∃ ca ws w, RpAll D.K ca H1 ws vs ∧ g ws = some w ∧ ∀ p vs, H1 p = none → RpAll D.K ca H1 w vs → Q (.ref p) (upd H1 p (.lst vs)) := by
  obtain ⟨ca, ms, r, h⟩ := h
  refine RdA.bind r h fun ws vs ms1 ca1 H1 x1 r1 p1 h1 => ?_
  obtain ⟨w, e, q⟩ := Po.opt h1
  exact ⟨ca1, ws, w, p1, e, fun p vs np pv => q p vs ca1 H1 x1 r1 np pv⟩
section
variable {D : DC} {Wx : WX} {X : Cx} {x : Str} {p pos : Pos} {e : Expr} {es : List Expr} {l : LM} {id T : String} {g : List W → Option W} {gf : List W → Option (List W)}
theorem callR_of (hc : DCall D X (.builtin id) g) : CallR X (.builtin id) (fun vs H Q => ∃ ca ws w, RpAll D.K ca H ws vs ∧ g ws = some w ∧ ∀ v H', Same H H' → Rp D.K ca H' w v → Q v H') :=
  fun pins s σ H xs us Q I r ⟨ca, ws, w, p, e, q⟩ => hc pins s σ ca H xs us ws w Q I r p e q
theorem callRT_of (hc : DCall D X (.type T) g) : CallR X (.type T) (fun vs H Q => ∃ ca ws w, RpAll D.K ca H ws vs ∧ g ws = some w ∧ ∀ v H', Same H H' → Rp D.K ca H' w v → Q v H') :=
  fun pins s σ H xs us Q I r ⟨ca, ws, w, p, e, q⟩ => hc pins s σ ca H xs us ws w Q I r p e q
theorem callRF_of {f : Value} (hc : DCallF D X f gf) : CallR X f (fun vs H Q => ∃ ca ws w, RpAll D.K ca H ws vs ∧ gf ws = some w ∧ ∀ p vs, H p = none → RpAll D.K ca H w vs → Q (.ref p) (upd H p (.lst vs))) :=
  fun pins s σ H xs us Q I r ⟨ca, ws, w, p, e, q⟩ => hc pins s σ ca H xs us ws w Q I r p e q
theorem de_callB (hc : DCall D X (.builtin id) g) (hg : Gl X x) (hm : X.mg x = none) (hv : bootBuiltins x = some (.builtin id)) (ha : DA D Wx X (e :: es) l) (hn : x ≠ "__name__" := by decide) (hdb : (x == ("__debug__" : Str)) = false := by decide)
    (he : starEach (e :: es) X.env = (false, eval e X.env) :: starEach es X.env := by rfl) (hpl : (backTo pos (starEach es X.env)).any (·.1) = false := by rfl) : DE D Wx X (.Call (.Name x p) (e :: es) [] pos) (eOf g l) :=
  PE.mono (pe_callB (callR_of hc) hg hm hv ha hn hdb he hpl) fun σ H Q h => RdA.opt h
theorem de_callTy (hc : DCall D X (.type T) g) (hg : Gl X x) (hm : X.mg x = none) (hv : bootBuiltins x = some (.type T)) (ha : DA D Wx X (e :: es) l) (hn : x ≠ "__name__" := by decide) (hdb : (x == ("__debug__" : Str)) = false := by decide)
    (he : starEach (e :: es) X.env = (false, eval e X.env) :: starEach es X.env := by rfl) (hpl : (backTo pos (starEach es X.env)).any (·.1) = false := by rfl) : DE D Wx X (.Call (.Name x p) (e :: es) [] pos) (eOf g l) :=
  PE.mono (pe_callTy (callRT_of hc) hg hm hv ha hn hdb he hpl) fun σ H Q h => RdA.opt h
theorem df_callTy (hc : DCallF D X (.type T) gf) (hg : Gl X x) (hm : X.mg x = none) (hv : bootBuiltins x = some (.type T)) (ha : DA D Wx X (e :: es) l) (hn : x ≠ "__name__" := by decide) (hdb : (x == ("__debug__" : Str)) = false := by decide)
    (he : starEach (e :: es) X.env = (false, eval e X.env) :: starEach es X.env := by rfl) (hpl : (backTo pos (starEach es X.env)).any (·.1) = false := by rfl) : DF D Wx X (.Call (.Name x p) (e :: es) [] pos) (fOf gf l) :=
  PE.mono (pe_callTy (callRF_of hc) hg hm hv ha hn hdb he hpl) fun σ H Q h => RdA.optF h
theorem df_callB (hc : DCallF D X (.builtin id) gf) (hg : Gl X x) (hm : X.mg x = none) (hv : bootBuiltins x = some (.builtin id)) (ha : DA D Wx X (e :: es) l) (hn : x ≠ "__name__" := by decide) (hdb : (x == ("__debug__" : Str)) = false := by decide)
    (he : starEach (e :: es) X.env = (false, eval e X.env) :: starEach es X.env := by rfl) (hpl : (backTo pos (starEach es X.env)).any (·.1) = false := by rfl) : DF D Wx X (.Call (.Name x p) (e :: es) [] pos) (fOf gf l) :=
  PE.mono (pe_callB (callRF_of hc) hg hm hv ha hn hdb he hpl) fun σ H Q h => RdA.optF h
end
end DL
namespace DL
open PySem PySem.Spec PyProof.Rows L2

theorem Inv.fzl {X : Cx} {pins : List (Addr × Obj)} {σ : L2.St} {H : Hp} {s : Shared} {l : Addr} {xs : List V} (I : Inv X pins σ H s) (h : FzL X.K H l xs) : xs.length ≤ sizeLine ∧ ∃ (its : List Value) (n : Nat), Vals xs its ∧ xs.length = its.length ∧ s.heap.get? l = some { cls := .type "list", data := .seq its.toArray n } := by
  rcases h with ⟨o, h⟩ | ⟨its, n, h1, h2, h3⟩
  · obtain ⟨e, z, its, n, r, e'⟩ := I.hok l _ h
    exact ⟨z, its, n, r, r.length, e'⟩
  · have e := h3.length
    exact ⟨by rw [e]; simpa using h2, its.toList, n, h3, e, by simpa using I.kIn _ _ h1⟩
section
variable {D : DC} {X : Cx}
theorem Rp.int {K : PySem.W.Frag} {ca : CA} {H : Hp} {i : Int} {v : V} (h : Rp K ca H (.int i) v) : v = .int i := by simpa only [Rp] using h
theorem Rp.bool {K : PySem.W.Frag} {ca : CA} {H : Hp} {i : Bool} {v : V} (h : Rp K ca H (.bool i) v) : v = .bl i := by simpa only [Rp] using h
theorem Rp.str {K : PySem.W.Frag} {ca : CA} {H : Hp} {i : Str} {v : V} (h : Rp K ca H (.str i) v) : v = .str i := by simpa only [Rp] using h
theorem Rp.none {K : PySem.W.Frag} {ca : CA} {H : Hp} {v : V} (h : Rp K ca H .none v) : v = .non := by simpa only [Rp] using h
theorem Rp.tup {K : PySem.W.Frag} {ca : CA} {H : Hp} {xs : List W} {v : V} (h : Rp K ca H (.tuple xs) v) : ∃ a vs, v = .ref a ∧ FzT K H a vs ∧ RpAll K ca H xs vs := by simpa only [Rp] using h
theorem Rp.lst {K : PySem.W.Frag} {ca : CA} {H : Hp} {xs : List W} {v : V} (h : Rp K ca H (.list xs) v) : ∃ a vs, v = .ref a ∧ FzL K H a vs ∧ RpAll K ca H xs vs := by simpa only [Rp] using h
theorem rp_int {K : PySem.W.Frag} {ca : CA} {H : Hp} {i : Int} : Rp K ca H (.int i) (.int i) := by simp only [Rp]
theorem rp_bool {K : PySem.W.Frag} {ca : CA} {H : Hp} {i : Bool} : Rp K ca H (.bool i) (.bl i) := by simp only [Rp]
theorem rp_str {K : PySem.W.Frag} {ca : CA} {H : Hp} {i : Str} : Rp K ca H (.str i) (.str i) := by simp only [Rp]
theorem rp_none {K : PySem.W.Frag} {ca : CA} {H : Hp} : Rp K ca H .none .non := by simp only [Rp]
theorem rp_tup {K : PySem.W.Frag} {ca : CA} {H : Hp} {xs : List W} {a : Addr} {vs : List V} (h1 : FzT K H a vs) (h2 : RpAll K ca H xs vs) : Rp K ca H (.tuple xs) (.ref a) := by simp only [Rp]; exact ⟨a, vs, rfl, h1, h2⟩
theorem rp_lst {K : PySem.W.Frag} {ca : CA} {H : Hp} {xs : List W} {a : Addr} {vs : List V} (h1 : FzL K H a vs) (h2 : RpAll K ca H xs vs) : Rp K ca H (.list xs) (.ref a) := by simp only [Rp]; exact ⟨a, vs, rfl, h1, h2⟩

/-! ### ints -/
def gI (f : Int → Int → W) : W → W → Option W
  | .int a, .int b => some (f a b)
  | _, _ => none
def gIc (c : Int → Int → Bool) (f : Int → Int → W) : W → W → Option W
  | .int a, .int b => if c a b = true then some (f a b) else none
  | _, _ => none
theorem dop_i0 {f : Value → Value → Sem Value} {g : Int → Int → V} {gw : Int → Int → W} (ho : OpR X f (rI0 g)) (hg : ∀ i j ca H, Rp D.K ca H (gw i j) (g i j)) : DOp D X f (gI gw) :=
  dop_of ho fun ca H x y wx wy w Q p1 p2 e q => by
    cases wx with
    | int i => cases wy with
      | int j =>
        cases e
        exact ⟨i, j, p1.int, p2.int, q _ H (fun _ _ h => h) (hg i j ca H)⟩
      | _ => cases e
    | _ => cases e
theorem dop_ic {f : Value → Value → Sem Value} {C : Int → Int → Prop} {c : Int → Int → Bool} {g : Int → Int → V} {gw : Int → Int → W} (ho : OpR X f (rI C g)) (hc : ∀ i j, c i j = true → C i j) (hg : ∀ i j ca H, Rp D.K ca H (gw i j) (g i j)) : DOp D X f (gIc c gw) :=
  dop_of ho fun ca H x y wx wy w Q p1 p2 e q => by
    cases wx with
    | int i => cases wy with
      | int j =>
        have e' : (if c i j = true then some (gw i j) else none) = some w := e
        by_cases h : c i j = true
        · rw [if_pos h] at e'
          cases e'
          exact ⟨i, j, p1.int, p2.int, hc i j h, q _ H (fun _ _ h => h) (hg i j ca H)⟩
        · rw [if_neg h] at e'; cases e'
      | _ => cases e
    | _ => cases e
/-- several ways, by what the values are -/
theorem DOp.or {f : Value → Value → Sem Value} {g g' : W → W → Option W} (h : DOp D X f g) (h' : DOp D X f g') : DOp D X f (fun a b => (g a b).or (g' a b)) :=
  fun pins s σ ca H x y u1 u2 wx wy w Q I r1 r2 p1 p2 e q => by
    cases e1 : g wx wy with
    | some z =>
      have e : (g wx wy).or (g' wx wy) = some w := e
      rw [e1] at e
      cases e
      exact h pins s σ ca H x y u1 u2 wx wy w Q I r1 r2 p1 p2 e1 q
    | none =>
      have e : (g wx wy).or (g' wx wy) = some w := e
      rw [e1] at e
      exact h' pins s σ ca H x y u1 u2 wx wy w Q I r1 r2 p1 p2 e q
def gAddI := gI fun i j => .int (i + j)
def gSubI := gI fun i j => .int (i - j)
def cMul (i j : Int) : Bool := Nat.blt (i.natAbs.log2 + j.natAbs.log2) 1000000
def gMulI := gIc cMul fun i j => .int (i * j)
def cDiv (i j : Int) : Bool := decide (0 < j) && Nat.blt j.natAbs.log2 9000
def gDivI := gIc cDiv fun i j => .int (i / j)
def cMod (i j : Int) : Bool := decide (0 < j)
def gModI := gIc cMod fun i j => .int (i % j)
theorem blt_lt {a b : Nat} (h : Nat.blt a b = true) : a < b := Nat.le_of_ble_eq_true h
theorem dop_addI : DOp D X (binaryOp .Add) gAddI := dop_i0 op_add fun _ _ _ _ => rp_int
theorem dop_sub : DOp D X (binaryOp .Sub) gSubI := dop_i0 op_sub fun _ _ _ _ => rp_int
theorem dop_mulI : DOp D X (binaryOp .Mult) gMulI := dop_ic op_mulW (fun i j h => blt_lt h) fun _ _ _ _ => rp_int
theorem dop_div : DOp D X (binaryOp .FloorDiv) gDivI := dop_ic op_fdivW (fun i j h => by
  unfold cDiv at h
  rw [Bool.and_eq_true] at h
  exact ⟨of_decide_eq_true h.1, blt_lt h.2⟩) fun _ _ _ _ => rp_int
theorem dop_mod : DOp D X (binaryOp .Mod) gModI := dop_ic op_mod (fun i j h => of_decide_eq_true h) fun _ _ _ _ => rp_int
def cPow (i j : Int) : Bool := decide (0 ≤ j) && (decide (j ≤ 1000000) && Nat.blt i.natAbs (2 ^ 64))
def gPow := gIc cPow fun i j => .int (i ^ j.toNat)
theorem dop_pow : DOp D X (binaryOp .Pow) gPow := dop_ic op_pow (fun i j h => by
  unfold cPow at h
  rw [Bool.and_eq_true, Bool.and_eq_true] at h
  exact ⟨of_decide_eq_true h.1, of_decide_eq_true h.2.1, blt_lt h.2.2⟩) fun _ _ _ _ => rp_int
def gLtI := gI fun i j => .bool (decide (i < j))
def gLeI := gI fun i j => .bool (decide (i ≤ j))
def gGtI := gI fun i j => .bool (decide (j < i))
def gGeI := gI fun i j => .bool (decide (j ≤ i))
theorem dop_ltI : DOp D X (compareOp .Lt) gLtI := dop_i0 op_lt fun _ _ _ _ => rp_bool
theorem dop_leI : DOp D X (compareOp .LtE) gLeI := dop_i0 op_le fun _ _ _ _ => rp_bool
theorem dop_gtI : DOp D X (compareOp .Gt) gGtI := dop_i0 op_gt fun _ _ _ _ => rp_bool
theorem dop_geI : DOp D X (compareOp .GtE) gGeI := dop_i0 op_ge fun _ _ _ _ => rp_bool
/-! ### tuples, lists, texts: +, * -/
def gCatT : W → W → Option W
  | .tuple xs, .tuple ys => if szOk (xs.length + ys.length) = true then some (.tuple (xs ++ ys)) else none
  | _, _ => none
theorem dop_catT (hK : D.K = X.K) : DOp D X (binaryOp .Add) gCatT :=
  dop_of op_catA fun ca H x y wx wy w Q p1 p2 e q => by
    cases wx with
    | tuple xs => cases wy with
      | tuple ys =>
        have e' : (if szOk (xs.length + ys.length) = true then some (PyData.tuple (xs ++ ys)) else none) = some w := e
        by_cases hz : szOk (xs.length + ys.length) = true
        · rw [if_pos hz] at e'
          cases e'
          obtain ⟨a, vs, rfl, f1, r1⟩ := p1.tup
          obtain ⟨b, us, rfl, f2, r2⟩ := p2.tup
          refine ⟨a, b, vs, us, rfl, rfl, by rw [← hK]; exact f1.sq, by rw [← hK]; exact f2.sq, by rw [r1.length, r2.length]; exact szOk_le hz, fun e0 => ?_, fun _ e0 => ?_, fun _ _ p np => ?_⟩
          · subst e0
            have : xs = [] := List.length_eq_zero_iff.mp r1.length.symm
            subst this
            exact q _ H (fun _ _ h => h) (rp_tup f2 r2)
          · subst e0
            have : ys = [] := List.length_eq_zero_iff.mp r2.length.symm
            subst this
            rw [List.append_nil] at q
            exact q _ H (fun _ _ h => h) (rp_tup f1 r1)
          · have g := Same.upd_new (o := .tup (vs ++ us)) np
            exact q _ _ g (rp_tup (.inl upd_same) (RpAll.mono (.of_same g) _ _ (r1.append r2)))
        · rw [if_neg hz] at e'; cases e'
      | _ => cases e
    | _ => cases e
def gAddS : W → W → Option W
  | .str x, .str y => if szOk (x.length + y.length) = true then some (.str (x ++ y)) else none
  | _, _ => none
theorem dop_addS : DOp D X (binaryOp .Add) gAddS :=
  dop_of op_add_str fun ca H x y wx wy w Q p1 p2 e q => by
    cases wx with
    | str xs => cases wy with
      | str ys =>
        have e' : (if szOk (xs.length + ys.length) = true then some (PyData.str (xs ++ ys)) else none) = some w := e
        by_cases hz : szOk (xs.length + ys.length) = true
        · rw [if_pos hz] at e'
          cases e'
          exact ⟨xs, ys, p1.str, p2.str, szOk_le hz, q _ H (fun _ _ h => h) rp_str⟩
        · rw [if_neg hz] at e'; cases e'
      | _ => cases e
    | _ => cases e
def gAdd : W → W → Option W
  | .int a, .int b => some (.int (a + b))
  | .tuple xs, .tuple ys => if szOk (xs.length + ys.length) = true then some (.tuple (xs ++ ys)) else none
  | .str x, .str y => if szOk (x.length + y.length) = true then some (.str (x ++ y)) else none
  | _, _ => none
theorem dop_add (hK : D.K = X.K) : DOp D X (binaryOp .Add) gAdd := fun pins s σ ca H x y u1 u2 wx wy w Q I r1 r2 p1 p2 e q =>
  ((dop_addI.or (dop_catT hK)).or dop_addS) pins s σ ca H x y u1 u2 wx wy w Q I r1 r2 p1 p2 (by rw [← e]; cases wx <;> cases wy <;> simp [gAdd, gAddI, gI, gCatT, gAddS]) q
end
end DL
namespace DL
open PySem PySem.Spec PyProof.Rows L2

mutual
theorem Rp.dp {K : PySem.W.Frag} {ca : CA} {H : Hp} : ∀ (w : W) (v : V), w.canLay0 = true → Rp K ca H w v → Dp K H v w
  | .none, v, _, h => by rw [h.none]; exact .non
  | .bool b, v, _, h => by rw [h.bool]; exact .bl b
  | .int b, v, _, h => by rw [h.int]; exact .int b
  | .str b, v, _, h => by rw [h.str]; exact .str b
  | .list xs, v, c, h => by
    obtain ⟨a, vs, rfl, f, r⟩ := h.lst
    exact .lst f.sq (RpAll.dp xs vs (by simpa [PyData.canLay0] using c) r)
  | .tuple xs, v, c, h => by
    obtain ⟨a, vs, rfl, f, r⟩ := h.tup
    exact .tup f.sq (RpAll.dp xs vs (by simpa [PyData.canLay0] using c) r)
  | .dict xs, v, c, h => by simp [PyData.canLay0] at c
theorem RpAll.dp {K : PySem.W.Frag} {ca : CA} {H : Hp} : ∀ (ws : List W) (vs : List V), PyData.canLayAll0 ws = true → RpAll K ca H ws vs → DpAll K H vs ws
  | [], vs, _, h => by simp only [RpAll] at h; subst h; exact .nil
  | x :: xs, vs, c, h => by
    simp only [RpAll] at h
    obtain ⟨v, r, rfl, h1, h2⟩ := h
    rw [PyData.canLayAll0, Bool.and_eq_true] at c
    exact .cons (Rp.dp x v c.1 h1) (RpAll.dp xs r c.2 h2)
end
/-- either is not deep -/
def shallow (a b : W) : Bool := Nat.ble a.depth 60 || Nat.ble b.depth 60
theorem shallow_min {a b : W} (h : shallow a b = true) : min a.depth b.depth ≤ 60 := by
  unfold shallow at h
  rw [Bool.or_eq_true] at h
  rcases h with h | h
  · exact Nat.le_trans (Nat.min_le_left _ _) (Nat.le_of_ble_eq_true h)
  · exact Nat.le_trans (Nat.min_le_right _ _) (Nat.le_of_ble_eq_true h)
/-- a == b -/
def eqW : W → W → Option Bool
  | .int a, .int b => some (decide (a = b))
  | .str a, .str b => some (decide (a = b))
  | a, b => if (a.canLay0 && b.canLay0 && shallow a b) = true then some (PyData.eqv a b) else none
def gEq (a b : W) : Option W := (eqW a b).map .bool
def gNe (a b : W) : Option W := (eqW a b).map fun k => .bool (!k)
section
variable {D : DC} {X : Cx}
theorem eqW_cases {a b : W} {k : Bool} (h : eqW a b = some k) : (∃ i j, a = .int i ∧ b = .int j ∧ k = decide (i = j)) ∨ (∃ i j, a = .str i ∧ b = .str j ∧ k = decide (i = j)) ∨ (a.canLay0 = true ∧ b.canLay0 = true ∧ shallow a b = true ∧ k = PyData.eqv a b) := by
  have gen : (if (a.canLay0 && b.canLay0 && shallow a b) = true then some (PyData.eqv a b) else none) = some k → a.canLay0 = true ∧ b.canLay0 = true ∧ shallow a b = true ∧ k = PyData.eqv a b := fun e => by
    by_cases hc : (a.canLay0 && b.canLay0 && shallow a b) = true
    · rw [if_pos hc] at e
      cases e
      rw [Bool.and_eq_true, Bool.and_eq_true] at hc
      exact ⟨hc.1.1, hc.1.2, hc.2, rfl⟩
    · rw [if_neg hc] at e; cases e
  cases a with
  | int i => cases b with
    | int j => exact .inl ⟨i, j, rfl, rfl, by simpa [eqW] using h.symm⟩
    | _ => exact .inr (.inr (gen (by simpa only [eqW] using h)))
  | str i => cases b with
    | str j => exact .inr (.inl ⟨i, j, rfl, rfl, by simpa [eqW] using h.symm⟩)
    | _ => exact .inr (.inr (gen (by simpa only [eqW] using h)))
  | _ => exact .inr (.inr (gen (by simpa only [eqW] using h)))
theorem eq_any (hK : D.K = X.K) (hu : X.A.units + 64 < cLine) {pins : List (Addr × Obj)} {s : Shared} {σ : L2.St} {ca : CA} {H : Hp} {x y : V} {u1 u2 : Value} {wx wy : W} {k : Bool} {R : Value → Shared → Prop} {E : Value → Shared → Prop} (I : Inv X pins σ H s) (r1 : RelV x u1) (r2 : RelV y u2)
    (p1 : Rp D.K ca H wx x) (p2 : Rp D.K ca H wy y) (e : eqW wx wy = some k) (h : R (.bool k) s) : wpAny (model X.prog X.w) X.A (compareOp .Eq u1 u2) R E s := by
  rcases eqW_cases e with ⟨i, j, rfl, rfl, rfl⟩ | ⟨i, j, rfl, rfl, rfl⟩ | ⟨c1, c2, hs, rfl⟩
  · rw [p1.int] at r1
    rw [p2.int] at r2
    obtain ⟨t, rfl⟩ := r1
    obtain ⟨t', rfl⟩ := r2
    exact eq_int (by rw [Bool.beq_eq_decide_eq]; exact h)
  · rw [p1.str] at r1
    rw [p2.str] at r2
    obtain ⟨t, rfl⟩ := r1
    obtain ⟨t', rfl⟩ := r2
    exact eq_str (by rw [Bool.beq_eq_decide_eq]; exact h)
  · rw [hK] at p1 p2
    obtain ⟨as, q1⟩ := Dp.reads I wx x u1 (Rp.dp wx x c1 p1) r1
    obtain ⟨bs, q2⟩ := Dp.reads I wy y u2 (Rp.dp wy y c2 p2) r2
    have hm := shallow_min hs
    exact SeqAt.compareEq_reads q1 q2 c1 c2 (by omega) h
theorem ne_any (hK : D.K = X.K) (hu : X.A.units + 64 < cLine) {pins : List (Addr × Obj)} {s : Shared} {σ : L2.St} {ca : CA} {H : Hp} {x y : V} {u1 u2 : Value} {wx wy : W} {k : Bool} {R : Value → Shared → Prop} {E : Value → Shared → Prop} (I : Inv X pins σ H s) (r1 : RelV x u1) (r2 : RelV y u2)
    (p1 : Rp D.K ca H wx x) (p2 : Rp D.K ca H wy y) (e : eqW wx wy = some k) (h : R (.bool (!k)) s) : wpAny (model X.prog X.w) X.A (compareOp .NotEq u1 u2) R E s := by
  rcases eqW_cases e with ⟨i, j, rfl, rfl, rfl⟩ | ⟨i, j, rfl, rfl, rfl⟩ | ⟨c1, c2, hs, rfl⟩
  · rw [p1.int] at r1
    rw [p2.int] at r2
    obtain ⟨t, rfl⟩ := r1
    obtain ⟨t', rfl⟩ := r2
    exact ne_int (by rw [bne, Bool.beq_eq_decide_eq]; exact h)
  · rw [p1.str] at r1
    rw [p2.str] at r2
    obtain ⟨t, rfl⟩ := r1
    obtain ⟨t', rfl⟩ := r2
    exact ne_str (by rw [bne, Bool.beq_eq_decide_eq]; exact h)
  · rw [hK] at p1 p2
    obtain ⟨as, q1⟩ := Dp.reads I wx x u1 (Rp.dp wx x c1 p1) r1
    obtain ⟨bs, q2⟩ := Dp.reads I wy y u2 (Rp.dp wy y c2 p2) r2
    have hm := shallow_min hs
    exact SeqAt.compareNe_reads q1 q2 c1 c2 (by omega) h
theorem dop_eq (hK : D.K = X.K) (hu : X.A.units + 64 < cLine) : DOp D X (compareOp .Eq) gEq := fun pins s σ ca H x y u1 u2 wx wy w Q I r1 r2 p1 p2 e q => by
  obtain ⟨k, e1, rfl⟩ := Option.map_eq_some_iff.mp e
  exact eq_any hK hu I r1 r2 p1 p2 e1 ⟨.bl k, H, I, rfl, q _ H (fun _ _ h => h) rp_bool⟩
theorem dop_ne (hK : D.K = X.K) (hu : X.A.units + 64 < cLine) : DOp D X (compareOp .NotEq) gNe := fun pins s σ ca H x y u1 u2 wx wy w Q I r1 r2 p1 p2 e q => by
  obtain ⟨k, e1, rfl⟩ := Option.map_eq_some_iff.mp e
  exact ne_any hK hu I r1 r2 p1 p2 e1 ⟨.bl (!k), H, I, rfl, q _ H (fun _ _ h => h) rp_bool⟩
/-! is None -/
def isNone : W → Bool
  | .none => true
  | _ => false
theorem isNone_rp {K : PySem.W.Frag} {ca : CA} {H : Hp} {w : W} {v : V} (h : Rp K ca H w v) : decide (v = .non) = isNone w := by
  cases w with
  | none => rw [h.none]; rfl
  | bool b => rw [h.bool]; rfl
  | int b => rw [h.int]; rfl
  | str b => rw [h.str]; rfl
  | list b => obtain ⟨a, vs, rfl, _⟩ := h.lst; rfl
  | tuple b => obtain ⟨a, vs, rfl, _⟩ := h.tup; rfl
  | dict b =>
    simp only [Rp] at h
    rcases h with ⟨k, a, as, _, _, rfl⟩ | ⟨a, ps, rfl, _⟩ <;> rfl
def gIs (a b : W) : Option W := if isNone b = true then some (.bool (isNone a)) else none
def gIsNot (a b : W) : Option W := if isNone b = true then some (.bool (!isNone a)) else none
theorem dop_is : DOp D X (compareOp .Is) gIs := dop_of op_isN fun ca H x y wx wy w Q p1 p2 e q => by
  unfold gIs at e
  by_cases h : isNone wy = true
  · rw [if_pos h] at e
    cases e
    have := isNone_rp p2
    rw [h] at this
    refine ⟨of_decide_eq_true this, ?_⟩
    rw [isNone_rp p1]
    exact q _ H (fun _ _ h => h) rp_bool
  · rw [if_neg h] at e; cases e
theorem dop_isnot : DOp D X (compareOp .IsNot) gIsNot := dop_of op_notN fun ca H x y wx wy w Q p1 p2 e q => by
  unfold gIsNot at e
  by_cases h : isNone wy = true
  · rw [if_pos h] at e
    cases e
    have := isNone_rp p2
    rw [h] at this
    refine ⟨of_decide_eq_true this, ?_⟩
    rw [isNone_rp p1]
    exact q _ H (fun _ _ h => h) rp_bool
  · rw [if_neg h] at e; cases e
/-! ### in -/
/-- x in a tuple, a list: by == from the left; of ints alone the quick way -/
def anyEq (x : W) : List W → Option Bool
  | [] => some false
  | y :: ys => match eqW y x with
    | some true => some true
    | some false => anyEq x ys
    | none => none
def inSeq (x y : W) : Option Bool := match itemsOf y with
  | some ys => if (x.canLay0 && PyData.canLayAll0 ys && (Nat.ble x.depth 60 || Nat.ble (PyData.depthAll ys) 60)) = true then some (ys.any fun z => PyData.eqv z x) else none
  | none => none
def inStr : W → W → Option Bool
  | .str x, .str y => some (!(Builtin.Str.occurrences y x 0 y.length 1).isEmpty)
  | _, _ => none
theorem inSeq_run (hK : D.K = X.K) (hu : X.A.units + 65 < cLine) {pins : List (Addr × Obj)} {s : Shared} {σ : L2.St} {ca : CA} {H : Hp} {x y : V} {u1 u2 : Value} {wx wy : W} {k : Bool} {R : Value → Shared → Prop} {E : Value → Shared → Prop} (I : Inv X pins σ H s) (r1 : RelV x u1) (r2 : RelV y u2)
    (p1 : Rp D.K ca H wx x) (p2 : Rp D.K ca H wy y) (e : inSeq wx wy = some k) : (R (.bool k) s → wpAny (model X.prog X.w) X.A (compareOp .In u1 u2) R E s) ∧ (R (.bool (!k)) s → wpAny (model X.prog X.w) X.A (compareOp .NotIn u1 u2) R E s) := by
  rw [hK] at p1 p2
  have fin : ∀ ys, itemsOf wy = some ys → (x : V) = x → wx.canLay0 = true ∧ PyData.canLayAll0 ys = true ∧ X.A.units + 1 + min (PyData.depthAll ys) wx.depth < cLine ∧ k = ys.any fun z => PyData.eqv z wx := fun ys ei _ => by
    unfold inSeq at e
    rw [ei] at e
    dsimp only at e
    by_cases hc : (wx.canLay0 && PyData.canLayAll0 ys && (Nat.ble wx.depth 60 || Nat.ble (PyData.depthAll ys) 60)) = true
    · rw [if_pos hc] at e
      cases e
      rw [Bool.and_eq_true, Bool.and_eq_true, Bool.or_eq_true] at hc
      refine ⟨hc.1.1, hc.1.2, ?_, rfl⟩
      rcases hc.2 with h | h
      · have := Nat.le_of_ble_eq_true h
        have := Nat.min_le_right (PyData.depthAll ys) wx.depth
        omega
      · have := Nat.le_of_ble_eq_true h
        have := Nat.min_le_left (PyData.depthAll ys) wx.depth
        omega
    · rw [if_neg hc] at e; cases e
  cases wy with
  | list ys =>
    obtain ⟨c1, c2, hr, rfl⟩ := fin ys rfl rfl
    obtain ⟨as, q1⟩ := Dp.reads I wx x u1 (Rp.dp wx x c1 p1) r1
    obtain ⟨bs, q2⟩ := Dp.reads I (.list ys) y u2 (Rp.dp (.list ys) y (by simpa [PyData.canLay0] using c2) p2) r2
    exact ⟨fun h => SeqAt.in_list_reads q2 q1 (by simpa [PyData.canLay0] using c2) c1 hr h, fun h => SeqAt.notIn_list_reads q2 q1 (by simpa [PyData.canLay0] using c2) c1 hr h⟩
  | tuple ys =>
    obtain ⟨c1, c2, hr, rfl⟩ := fin ys rfl rfl
    obtain ⟨as, q1⟩ := Dp.reads I wx x u1 (Rp.dp wx x c1 p1) r1
    obtain ⟨bs, q2⟩ := Dp.reads I (.tuple ys) y u2 (Rp.dp (.tuple ys) y (by simpa [PyData.canLay0] using c2) p2) r2
    exact ⟨fun h => SeqAt.in_tuple_reads q2 q1 (by simpa [PyData.canLay0] using c2) c1 hr h, fun h => SeqAt.notIn_tuple_reads q2 q1 (by simpa [PyData.canLay0] using c2) c1 hr h⟩
  | _ => cases e
def inW (x y : W) : Option Bool := (inSeq x y).or (inStr x y)
def gIn (a b : W) : Option W := (inW a b).map .bool
def gNotIn (a b : W) : Option W := (inW a b).map fun k => .bool (!k)
theorem inStr_run {x y : W} {k : Bool} (h : inStr x y = some k) : ∃ i j, x = .str i ∧ y = .str j ∧ k = (!(Builtin.Str.occurrences j i 0 j.length 1).isEmpty) := by
  cases x with
  | str i => cases y with
    | str j => exact ⟨i, j, rfl, rfl, by simpa [inStr] using h.symm⟩
    | _ => cases h
  | _ => cases h
theorem dop_in (hK : D.K = X.K) (hu : X.A.units + 65 < cLine) : DOp D X (compareOp .In) gIn := fun pins s σ ca H x y u1 u2 wx wy w Q I r1 r2 p1 p2 e q => by
  obtain ⟨k, e1, rfl⟩ := Option.map_eq_some_iff.mp e
  unfold inW at e1
  cases e2 : inSeq wx wy with
  | some k' =>
    rw [e2] at e1
    cases e1
    exact (inSeq_run hK hu I r1 r2 p1 p2 e2).1 ⟨.bl k, H, I, rfl, q _ H (fun _ _ h => h) rp_bool⟩
  | none =>
    rw [e2] at e1
    obtain ⟨i, j, rfl, rfl, rfl⟩ := inStr_run e1
    exact op_in_str pins s σ H x y u1 u2 Q I r1 r2 ⟨i, j, p1.str, p2.str, q _ H (fun _ _ h => h) rp_bool⟩
theorem dop_notin (hK : D.K = X.K) (hu : X.A.units + 65 < cLine) : DOp D X (compareOp .NotIn) gNotIn := fun pins s σ ca H x y u1 u2 wx wy w Q I r1 r2 p1 p2 e q => by
  obtain ⟨k, e1, rfl⟩ := Option.map_eq_some_iff.mp e
  unfold inW at e1
  cases e2 : inSeq wx wy with
  | some k' =>
    rw [e2] at e1
    cases e1
    exact (inSeq_run hK hu I r1 r2 p1 p2 e2).2 ⟨.bl (!k), H, I, rfl, q _ H (fun _ _ h => h) rp_bool⟩
  | none =>
    rw [e2] at e1
    obtain ⟨i, j, rfl, rfl, rfl⟩ := inStr_run e1
    exact op_notIn_str pins s σ H x y u1 u2 Q I r1 r2 ⟨i, j, p1.str, p2.str, q _ H (fun _ _ h => h) rp_bool⟩
/-! ### < of data that are alike -/
open PySem.W in
def gLt : W → W → Option W
  | .int a, .int b => some (.bool (decide (a < b)))
  | a, b => if (alike a b && !isNone a && shallow a b && a.canLay0 && b.canLay0) = true then some (.bool (dataLt a b)) else none
open PySem.W in
theorem dop_lt (hK : D.K = X.K) (hu : X.A.units + 64 < cLine) : DOp D X (compareOp .Lt) gLt := fun pins s σ ca H x y u1 u2 wx wy w Q I r1 r2 p1 p2 e q => by
  have gen : (if (alike wx wy && !isNone wx && shallow wx wy && wx.canLay0 && wy.canLay0) = true then some (PyData.bool (dataLt wx wy)) else none) = some w → wpAny (model X.prog X.w) X.A (compareOp .Lt u1 u2) (EP X pins σ Q) X.xe s := fun e => by
    by_cases hc : (alike wx wy && !isNone wx && shallow wx wy && wx.canLay0 && wy.canLay0) = true
    · rw [if_pos hc] at e
      cases e
      simp only [Bool.and_eq_true] at hc
      obtain ⟨⟨⟨⟨ha, hn⟩, hs⟩, c1⟩, c2⟩ := hc
      rw [hK] at p1 p2
      obtain ⟨as, q1⟩ := Dp.reads I wx x u1 (Rp.dp wx x c1 p1) r1
      obtain ⟨bs, q2⟩ := Dp.reads I wy y u2 (Rp.dp wy y c2 p2) r2
      have hm := shallow_min hs
      have hn' : wx ≠ .none := fun z => by subst z; simp [isNone] at hn
      exact rcLt_alike wx wy X.A s u1 u2 as bs q1 q2 ha hn' (by omega) _ _ _ _ ⟨.bl _, H, I, rfl, q _ H (fun _ _ h => h) rp_bool⟩
    · rw [if_neg hc] at e; cases e
  cases wx with
  | int i => cases wy with
    | int j =>
      have e : some (PyData.bool (decide (i < j))) = some w := e
      cases e
      exact op_lt pins s σ H x y u1 u2 Q I r1 r2 ⟨i, j, p1.int, p2.int, q _ H (fun _ _ h => h) rp_bool⟩
    | _ => exact gen (by simpa only [gLt] using e)
  | _ => exact gen (by simpa only [gLt] using e)
end
end DL
namespace DL
open PySem PySem.Spec PyProof.Rows L2
section
variable {D : DC} {Wx : WX} {X : Cx} {a b e : Expr} {ma mb : EM} {pos : Pos}
/-! ### an item -/
def atW : W → W → Option W
  | .tuple xs, .int i => atI xs i
  | .list xs, .int i => atI xs i
  | .str z, .int i => if szOk z.length = true then (atI z.cps.toList i).map fun c => .str ⟨#[c]⟩ else none
  | _, _ => none
theorem RpAll.atI {K : PySem.W.Frag} {ca : CA} {H : Hp} {xs : List W} {vs : List V} {i : Int} {x : W} (r : RpAll K ca H xs vs) (h : L2.atI xs i = some x) : ∃ v, L2.atI vs i = some v ∧ Rp K ca H x v := by
  unfold L2.atI at h ⊢
  rw [r.length]
  cases e : ixN xs.length i with
  | none => rw [e] at h; cases h
  | some j =>
    rw [e] at h
    exact r.get h
theorem de_ix (hK : D.K = X.K) (ha : DE D Wx X a ma) (hb : DE D Wx X b mb) (hs : PlainIx b) : DE D Wx X (.Subscript a b pos) (eBin atW ma mb) :=
  PE.mono (pe_ix ix_seq ha hb hs) fun σ H Q h => by
    obtain ⟨ca, ms, r, h⟩ := h
    refine RdE.bind r h fun wx x ms1 ca1 H1 x1 r1 p1 h1 => RdE.bind r1 (h1.ext x1) fun wy y ms2 ca2 H2 x2 r2 p2 h2 => ?_
    obtain ⟨w, e, q⟩ := Po.opt h2
    have p1 := Rp.mono x2 _ _ p1
    have fin : ∀ v, Rp D.K ca2 H2 w v → Q v H2 := fun v pv => q v ca2 H2 (x1.trans x2) r2 pv
    cases wy with
    | int i =>
      obtain rfl := p2.int
      cases wx with
      | tuple xs =>
        obtain ⟨p, vs, rfl, f, ra⟩ := p1.tup
        obtain ⟨v, e1, e2⟩ := ra.atI e
        exact .inr (.inl ⟨p, vs, i, v, rfl, rfl, by rw [← hK]; exact f.sq, e1, fin v e2⟩)
      | list xs =>
        obtain ⟨p, vs, rfl, f, ra⟩ := p1.lst
        obtain ⟨v, e1, e2⟩ := ra.atI e
        exact .inl ⟨p, vs, i, v, rfl, rfl, by rw [← hK]; exact f.sq, e1, fin v e2⟩
      | str z =>
        have e' : (if szOk z.length = true then (L2.atI z.cps.toList i).map fun c => PyData.str ⟨#[c]⟩ else none) = some w := e
        by_cases hz : szOk z.length = true
        · rw [if_pos hz] at e'
          obtain ⟨c, e1, rfl⟩ := Option.map_eq_some_iff.mp e'
          obtain rfl := p1.str
          exact .inr (.inr ⟨z, i, c, rfl, rfl, szOk_le hz, e1, fin _ rp_str⟩)
        · rw [if_neg hz] at e'; cases e'
      | _ => cases e
    | _ => cases wx <;> cases e
/-! ### slices -/
abbrev OM := MS → R (Option Int)
def RdO (D : DC) (Wx : WX) (m : OM) : TO := fun σ H Q => ∃ ca ms, Rel D ca σ H ms ∧ Po D Wx σ ca H (m ms) (fun o ms' => ∀ ca' H', Ext ca H ca' H' → Rel D ca' σ H' ms' → Q o H')
def DO (D : DC) (Wx : WX) (X : Cx) (o : Option Expr) (m : OM) : Prop := PO X o (RdO D Wx m)
theorem PO.mono {X : Cx} {e : Option Expr} {t t' : TO} (h : PO X e t) (f : ∀ σ H Q, t' σ H Q → t σ H Q) : PO X e t' := ⟨fun pins s σ H Q I hw => h.run pins s σ H Q I (f σ H Q hw)⟩
def oNone : OM := fun m => .ok none m
def oSome (a : EM) : OM := fun m => (a m).bind fun x m => match x with
  | .int i => .ok (some i) m
  | _ => .bad
theorem do_none : DO D Wx X none oNone := PO.mono po_none fun σ H Q ⟨ca, ms, r, h⟩ => h ca H (.refl _ _) r
theorem do_some (h : DE D Wx X e ma) : DO D Wx X (some e) (oSome ma) := PO.mono (po_some h) fun σ H Q ⟨ca, ms, r, h⟩ => RdE.bind r h fun w v ms1 ca1 H1 x1 r1 p1 h1 => by
  cases w with
  | int i => exact ⟨i, p1.int, h1 ca1 H1 x1 r1⟩
  | _ => exact h1.elim
theorem RdO.bind {D : DC} {Wx : WX} {σ : L2.St} {ca : CA} {H : Hp} {ms : MS} {ma : OM} {β : Type} {f : Option Int → MS → R β} {P : β → MS → Prop} {Q : Option Int → Hp → Prop} (r : Rel D ca σ H ms) (h : Po D Wx σ ca H ((ma ms).bind f) P)
    (q : ∀ o ms1 ca1 H1, Ext ca H ca1 H1 → Rel D ca1 σ H1 ms1 → Po D Wx σ ca H (f o ms1) P → Q o H1) : RdO D Wx ma σ H Q := by
  refine ⟨ca, ms, r, ?_⟩
  cases e : ma ms with
  | ok w ms1 =>
    rw [e] at h
    exact fun ca1 H1 x1 r1 => q w ms1 ca1 H1 x1 r1 h
  | err c fs m =>
    rw [e] at h
    exact h
  | bad =>
    rw [e] at h
    exact h
def cutW (xs : List W) (lo hi : Option Int) : List W := (xs.drop (HT.sIx xs.length 0 lo)).take (HT.sIx xs.length xs.length hi - HT.sIx xs.length 0 lo)
theorem RpAll.cut {K : PySem.W.Frag} {ca : CA} {H : Hp} {xs : List W} {vs : List V} {lo hi : Option Int} (r : RpAll K ca H xs vs) : RpAll K ca H (cutW xs lo hi) (cutV vs lo hi) := by
  unfold cutW cutV
  rw [r.length]
  exact (r.drop _).take _
/-- of a tuple -/
def eCutT (a : EM) (lo hi : OM) : EM := fun m => (a m).bind fun x m => (lo m).bind fun l m => (hi m).bind fun u m => match x with
  | .tuple xs => .ok (.tuple (cutW xs l u)) m
  | _ => .bad
theorem de_cutT {lo hi : Option Expr} {ml mh : OM} {p2 : Pos} (hK : D.K = X.K) (ha : DE D Wx X a ma) (hl : DO D Wx X lo ml) (hh : DO D Wx X hi mh) : DE D Wx X (.Subscript a (.Slice lo hi none p2) pos) (eCutT ma ml mh) :=
  PE.mono (pe_slice sl_tupA ha hl hh) fun σ H Q ⟨ca, ms, r, h⟩ => RdE.bind r h fun wx x ms1 ca1 H1 x1 r1 p1 h1 => RdO.bind r1 (h1.ext x1) fun l ms2 ca2 H2 x2 r2 h2 => RdO.bind r2 (h2.ext x2) fun u ms3 ca3 H3 x3 r3 h3 => by
    cases wx with
    | tuple xs =>
      obtain ⟨p, vs, rfl, f, ra⟩ := (Rp.mono (x2.trans x3) _ _ p1).tup
      refine ⟨p, vs, rfl, by rw [← hK]; exact f.sq, fun hw => ?_, fun _ q nq => ?_⟩
      · have e : cutW xs l u = xs := by
          unfold cutW
          rw [← ra.length, hw.1, hw.2, List.drop_zero, Nat.sub_zero, ra.length, List.take_length]
        refine h3 _ ca3 H3 ((x1.trans x2).trans x3) r3 ?_
        rw [e]
        exact rp_tup f ra
      · have g := Same.upd_new (o := .tup (cutV vs l u)) nq
        exact h3 _ ca3 _ (((x1.trans x2).trans x3).trans (.of_same g)) (r3.grow g) (rp_tup (.inl upd_same) (RpAll.mono (.of_same g) _ _ ra.cut))
    | _ => exact h3.elim
/-- of a list: a new one -/
def fCut (a : EM) (lo hi : OM) : LM := fun m => (a m).bind fun x m => (lo m).bind fun l m => (hi m).bind fun u m => match x with
  | .list xs => .ok (cutW xs l u) m
  | _ => .bad
theorem df_cut {lo hi : Option Expr} {ml mh : OM} {p2 : Pos} (hK : D.K = X.K) (ha : DE D Wx X a ma) (hl : DO D Wx X lo ml) (hh : DO D Wx X hi mh) : DF D Wx X (.Subscript a (.Slice lo hi none p2) pos) (fCut ma ml mh) := by
  refine ⟨fun pins s σ H Q I hw => ?_⟩
  obtain ⟨ca, ms, r, h⟩ := hw
  refine (pe_slice (X := X) sl_list ha hl hh).run pins s σ H Q I ?_
  refine RdE.bind r h fun wx x ms1 ca1 H1 x1 r1 p1 h1 => RdO.bind r1 (h1.ext x1) fun l ms2 ca2 H2 x2 r2 h2 => RdO.bind r2 (h2.ext x2) fun u ms3 ca3 H3 x3 r3 h3 => ?_
  cases wx with
  | list xs =>
    obtain ⟨p, vs, rfl, f, ra⟩ := (Rp.mono (x2.trans x3) _ _ p1).lst
    refine ⟨p, vs, rfl, by rw [← hK]; exact f.sq, fun q nq => ?_⟩
    exact h3 q _ ca3 H3 ((x1.trans x2).trans x3) r3 nq ra.cut
  | _ => exact h3.elim
end
end DL
namespace DL
open PySem PySem.Spec PyProof.Rows L2
section
variable {D : DC} {Wx : WX} {X : Cx} {a b e : Expr} {ma mb : EM} {pos p p2 : Pos}
/-! ### isinstance of a built-in class -/
def tyN : W → Option String
  | .none => some "NoneType"
  | .bool _ => some "bool"
  | .int _ => some "int"
  | .str _ => some "str"
  | .list _ => some "list"
  | .tuple _ => some "tuple"
  | .dict [(.none, .int _)] => none
  | .dict _ => some "dict"
def isiT (a T : String) : Bool := a == T || (a == "bool" && T == "int")
def eIsi (T : String) (a : EM) : EM := fun m => (a m).bind fun x m => opt ((tyN x).map fun n => .bool (isiT n T)) m
theorem tyN_rp {K : PySem.W.Frag} {ca : CA} {H : Hp} {w : W} {v : V} {n : String} (h : Rp K ca H w v) (e : tyN w = some n) : TyX K H v (.type n) := by
  cases w with
  | none => cases e; rw [h.none]; exact .base .non
  | bool k => cases e; rw [h.bool]; exact .base (.bl k)
  | int k => cases e; rw [h.int]; exact .base (.int k)
  | str k => cases e; rw [h.str]; exact .base (.str k)
  | list xs =>
    cases e
    obtain ⟨a, vs, rfl, f, r⟩ := h.lst
    rcases f with ⟨o, f⟩ | ⟨its, m, f, _⟩
    · exact .base (.frz f)
    · exact .kList f rfl
  | tuple xs =>
    cases e
    obtain ⟨a, vs, rfl, f, r⟩ := h.tup
    rcases f with f | ⟨o, its, m, f, c, _⟩
    · exact .base (.tup f)
    · exact .kTuple f c
  | dict kvs =>
    simp only [Rp] at h
    rcases h with ⟨k, a, as, rfl, _, rfl⟩ | ⟨a, ps, rfl, f, r⟩
    · cases e
    · have e' : n = "dict" := by
        unfold tyN at e
        split at e <;> simp_all
      subst e'
      obtain ⟨o, f⟩ := f
      exact .fDict f
def isiKinds : List String := ["NoneType", "bool", "int", "str", "list", "tuple", "dict"]
theorem tyN_mem {w : W} {n : String} (e : tyN w = some n) : n ∈ isiKinds := by
  unfold tyN at e
  split at e <;> first | (cases e; simp [isiKinds]) | cases e
theorem de_isi {T : String} {xT : Str} (hK : D.K = X.K) (hg : Gl X "isinstance") (hm : X.mg "isinstance" = none) (hgT : Gl X xT) (hmT : X.mg xT = none) (hT : ∀ n ∈ isiKinds, kitB n T = some (isiT n T)) (hvT : bootBuiltins xT = some (.type T)) (hnT : xT ≠ "__name__") (hdT : (xT == ("__debug__" : Str)) = false)
    (ha : DE D Wx X a ma) (hs2 : starEach [a, .Name xT p2] X.env = (false, eval a X.env) :: starEach [.Name xT p2] X.env := by rfl) (hs3 : starEach [.Name xT p2] X.env = (false, eval (.Name xT p2) X.env) :: starEach [] X.env := by rfl) (hpl : (backTo pos (starEach [.Name xT p2] X.env)).any (·.1) = false := by rfl) :
    DE D Wx X (.Call (.Name "isinstance" p) [a, .Name xT p2] [] pos) (eIsi T ma) :=
  PE.mono (pe_callB call_isi hg hm (by decide +kernel) (pa_cons ha (pa_cons (pe_bltn (v := .ty T) hgT hmT hvT rfl hnT hdT) pa_nil hs3) hs2) (by decide) (by decide) hs2 hpl) fun σ H Q ⟨ca, ms, r, h⟩ => RdE.bind r h fun wx x ms1 ca1 H1 x1 r1 p1 h1 => by
    obtain ⟨w, e, q⟩ := Po.opt h1
    obtain ⟨n, e1, rfl⟩ := Option.map_eq_some_iff.mp e
    refine ⟨x, .ty T, .type n, .type T, isiT n T, rfl, .ty T, by rw [← hK]; exact tyN_rp p1 e1, kit_ty (hT n (tyN_mem e1)), ?_⟩
    exact q _ ca1 H1 x1 r1 rp_bool
/-! ### all, any, sum, len, tuple, list, int, min and max of two -/
def boolsOf : List W → Option (List Bool)
  | [] => some []
  | .bool b :: r => (boolsOf r).map (b :: ·)
  | _ :: _ => none
def intsOf : List W → Option (List Int)
  | [] => some []
  | .int b :: r => (intsOf r).map (b :: ·)
  | _ :: _ => none
theorem boolsOf_rp {K : PySem.W.Frag} {ca : CA} {H : Hp} : ∀ {xs : List W} {vs : List V} {bs : List Bool}, RpAll K ca H xs vs → boolsOf xs = some bs → vs = bs.map V.bl
  | [], vs, bs, h, e => by simp only [RpAll] at h; subst h; cases e; rfl
  | x :: xs, vs, bs, h, e => by
    simp only [RpAll] at h
    obtain ⟨v, r, rfl, h1, h2⟩ := h
    cases x with
    | bool b =>
      obtain ⟨cs, e1, rfl⟩ := Option.map_eq_some_iff.mp (show (boolsOf xs).map (b :: ·) = some bs from e)
      rw [h1.bool, boolsOf_rp h2 e1]; rfl
    | _ => cases e
theorem intsOf_rp {K : PySem.W.Frag} {ca : CA} {H : Hp} : ∀ {xs : List W} {vs : List V} {bs : List Int}, RpAll K ca H xs vs → intsOf xs = some bs → vs = bs.map V.int
  | [], vs, bs, h, e => by simp only [RpAll] at h; subst h; cases e; rfl
  | x :: xs, vs, bs, h, e => by
    simp only [RpAll] at h
    obtain ⟨v, r, rfl, h1, h2⟩ := h
    cases x with
    | int b =>
      obtain ⟨cs, e1, rfl⟩ := Option.map_eq_some_iff.mp (show (intsOf xs).map (b :: ·) = some bs from e)
      rw [h1.int, intsOf_rp h2 e1]; rfl
    | _ => cases e
theorem rp_ints {K : PySem.W.Frag} {ca : CA} {H : Hp} : ∀ {bs : List Int}, RpAll K ca H (bs.map PyData.int) (bs.map V.int)
  | [] => by simp [RpAll]
  | x :: xs => by
    simp only [List.map_cons, RpAll]
    exact ⟨_, _, rfl, rp_int, rp_ints⟩
def gAll : List W → Option W
  | [.list xs] => (boolsOf xs).map fun bs => .bool (bs.all id)
  | _ => none
def gAny : List W → Option W
  | [.list xs] => (boolsOf xs).map fun bs => .bool (bs.any id)
  | _ => none
def gSum : List W → Option W
  | [.list xs] => (intsOf xs).map fun bs => .int bs.sum
  | _ => none
theorem dcall_of {f : Value} {g : List W → Option W} {r : List V → Hp → VK → Prop} (ho : CallR X f r) (h : ∀ ca H xs ws w Q, RpAll D.K ca H ws xs → g ws = some w → (∀ v H', Same H H' → Rp D.K ca H' w v → Q v H') → r xs H Q) : DCall D X f g :=
  fun pins s σ ca H xs us ws w Q I r1 p1 e q => ho pins s σ H xs us Q I r1 (h ca H xs ws w Q p1 e q)
theorem dcallF_of {f : Value} {g : List W → Option (List W)} {r : List V → Hp → VK → Prop} (ho : CallR X f r) (h : ∀ ca H xs ws w Q, RpAll D.K ca H ws xs → g ws = some w → (∀ p vs, H p = none → RpAll D.K ca H w vs → Q (.ref p) (upd H p (.lst vs))) → r xs H Q) : DCallF D X f g :=
  fun pins s σ ca H xs us ws w Q I r1 p1 e q => ho pins s σ H xs us Q I r1 (h ca H xs ws w Q p1 e q)
theorem RpAll.inv1 {K : PySem.W.Frag} {ca : CA} {H : Hp} {x : W} {vs : List V} (h : RpAll K ca H [x] vs) : ∃ v, vs = [v] ∧ Rp K ca H x v := by
  simp only [RpAll] at h
  obtain ⟨v, r, rfl, h1, rfl⟩ := h
  exact ⟨v, rfl, h1⟩
theorem RpAll.inv2 {K : PySem.W.Frag} {ca : CA} {H : Hp} {x y : W} {vs : List V} (h : RpAll K ca H [x, y] vs) : ∃ v u, vs = [v, u] ∧ Rp K ca H x v ∧ Rp K ca H y u := by
  simp only [RpAll] at h
  obtain ⟨v, r, rfl, h1, u, r2, rfl, h2, rfl⟩ := h
  exact ⟨v, u, rfl, h1, h2⟩
theorem dc_all (hK : D.K = X.K) (hc : X.calm = true) : DCall D X (.builtin "all") gAll := dcall_of (cr_all hc) fun ca H xs ws w Q p1 e q => by
  unfold gAll at e
  split at e
  · obtain ⟨v, rfl, h1⟩ := p1.inv1
    obtain ⟨a, vs, rfl, f, r⟩ := h1.lst
    obtain ⟨bs, e1, rfl⟩ := Option.map_eq_some_iff.mp e
    exact ⟨a, bs, rfl, by rw [← boolsOf_rp r e1, ← hK]; exact f.sq, q _ H (fun _ _ h => h) rp_bool⟩
  · cases e
theorem dc_any (hK : D.K = X.K) (hc : X.calm = true) : DCall D X (.builtin "any") gAny := dcall_of (cr_any hc) fun ca H xs ws w Q p1 e q => by
  unfold gAny at e
  split at e
  · obtain ⟨v, rfl, h1⟩ := p1.inv1
    obtain ⟨a, vs, rfl, f, r⟩ := h1.lst
    obtain ⟨bs, e1, rfl⟩ := Option.map_eq_some_iff.mp e
    exact ⟨a, bs, rfl, by rw [← boolsOf_rp r e1, ← hK]; exact f.sq, q _ H (fun _ _ h => h) rp_bool⟩
  · cases e
theorem dc_sum (hK : D.K = X.K) (hc : X.calm = true) : DCall D X (.builtin "sum") gSum := dcall_of (cr_sum hc) fun ca H xs ws w Q p1 e q => by
  unfold gSum at e
  split at e
  · obtain ⟨v, rfl, h1⟩ := p1.inv1
    obtain ⟨a, vs, rfl, f, r⟩ := h1.lst
    obtain ⟨bs, e1, rfl⟩ := Option.map_eq_some_iff.mp e
    exact ⟨a, bs, rfl, by rw [← intsOf_rp r e1, ← hK]; exact f.sq, q _ H (fun _ _ h => h) rp_int⟩
  · cases e
def gLen : List W → Option W
  | [.list xs] => some (.int xs.length)
  | [.tuple xs] => some (.int xs.length)
  | [.str z] => if szOk z.length = true then some (.int z.length) else none
  | _ => none
theorem dc_len (hK : D.K = X.K) : DCall D X (.builtin "len") gLen := dcall_of (call_len_seq.or call_len_str) fun ca H xs ws w Q p1 e q => by
  unfold gLen at e
  split at e
  · cases e
    obtain ⟨v, rfl, h1⟩ := p1.inv1
    obtain ⟨a, vs, rfl, f, r⟩ := h1.lst
    refine .inl ⟨a, vs, rfl, .inl (by rw [← hK]; exact f.sq), ?_⟩
    rw [r.length]
    exact q _ H (fun _ _ h => h) rp_int
  · cases e
    obtain ⟨v, rfl, h1⟩ := p1.inv1
    obtain ⟨a, vs, rfl, f, r⟩ := h1.tup
    refine .inl ⟨a, vs, rfl, .inr (by rw [← hK]; exact f.sq), ?_⟩
    rw [r.length]
    exact q _ H (fun _ _ h => h) rp_int
  · rename_i z
    obtain ⟨v, rfl, h1⟩ := p1.inv1
    by_cases hz : szOk z.length = true
    · rw [if_pos hz] at e
      cases e
      rw [h1.str]
      exact .inr ⟨z, rfl, szOk_le hz, q _ H (fun _ _ h => h) rp_int⟩
    · rw [if_neg hz] at e; cases e
  · cases e
def gTuple : List W → Option W
  | [.list xs] => some (.tuple xs)
  | [.tuple xs] => some (.tuple xs)
  | _ => none
theorem dc_tuple (hK : D.K = X.K) : DCall D X (.type "tuple") gTuple := dcall_of call_tuple_of fun ca H xs ws w Q p1 e q => by
  unfold gTuple at e
  split at e
  · cases e
    obtain ⟨v, rfl, h1⟩ := p1.inv1
    obtain ⟨a, vs, rfl, f, r⟩ := h1.lst
    refine ⟨a, vs, rfl, .inl ⟨by rw [← hK]; exact f.sq, fun l nl => ?_⟩⟩
    have g := Same.upd_new (o := .tup vs) nl
    exact q _ _ g (rp_tup (.inl upd_same) (RpAll.mono (.of_same g) _ _ r))
  · cases e
    obtain ⟨v, rfl, h1⟩ := p1.inv1
    obtain ⟨a, vs, rfl, f, r⟩ := h1.tup
    exact ⟨a, vs, rfl, .inr ⟨by rw [← hK]; exact f.sq, q _ H (fun _ _ h => h) (rp_tup f r)⟩⟩
  · cases e
def gList : List W → Option (List W)
  | [.list xs] => some xs
  | [.tuple xs] => some xs
  | _ => none
theorem dc_list (hK : D.K = X.K) : DCallF D X (.type "list") gList := dcallF_of call_list_of fun ca H xs ws w Q p1 e q => by
  unfold gList at e
  split at e
  · cases e
    obtain ⟨v, rfl, h1⟩ := p1.inv1
    obtain ⟨a, vs, rfl, f, r⟩ := h1.lst
    exact ⟨a, vs, rfl, .inl (by rw [← hK]; exact f.sq), fun l nl => q l vs nl r⟩
  · cases e
    obtain ⟨v, rfl, h1⟩ := p1.inv1
    obtain ⟨a, vs, rfl, f, r⟩ := h1.tup
    exact ⟨a, vs, rfl, .inr (by rw [← hK]; exact f.sq), fun l nl => q l vs nl r⟩
  · cases e
def gInt : List W → Option W
  | [.int i] => some (.int i)
  | [.bool b] => some (.int (if b then 1 else 0))
  | _ => none
theorem dc_int : DCall D X (.type "int") gInt := dcall_of call_int1 fun ca H xs ws w Q p1 e q => by
  unfold gInt at e
  split at e
  · cases e
    obtain ⟨v, rfl, h1⟩ := p1.inv1
    exact .inl ⟨_, by rw [h1.int], q _ H (fun _ _ h => h) rp_int⟩
  · cases e
    obtain ⟨v, rfl, h1⟩ := p1.inv1
    exact .inr ⟨_, by rw [h1.bool], q _ H (fun _ _ h => h) rp_int⟩
  · cases e
def gMin2 : List W → Option W
  | [.int i, .int j] => some (.int (if j < i then j else i))
  | _ => none
def gMax2 : List W → Option W
  | [.int i, .int j] => some (.int (if j > i then j else i))
  | _ => none
theorem dc_min2 (hc : X.calm = true) : DCall D X (.builtin "min") gMin2 := dcall_of (call_min2 hc) fun ca H xs ws w Q p1 e q => by
  unfold gMin2 at e
  split at e
  · cases e
    obtain ⟨v, u, rfl, h1, h2⟩ := p1.inv2
    exact ⟨_, _, by rw [h1.int, h2.int], q _ H (fun _ _ h => h) rp_int⟩
  · cases e
theorem dc_max2 (hc : X.calm = true) : DCall D X (.builtin "max") gMax2 := dcall_of (call_max2 hc) fun ca H xs ws w Q p1 e q => by
  unfold gMax2 at e
  split at e
  · cases e
    obtain ⟨v, u, rfl, h1, h2⟩ := p1.inv2
    exact ⟨_, _, by rw [h1.int, h2.int], q _ H (fun _ _ h => h) rp_int⟩
  · cases e
/-! ### lists: +, * (new ones) -/
def DOpF (D : DC) (X : Cx) (f : Value → Value → Sem Value) (g : W → W → Option (List W)) : Prop :=
  ∀ (pins : List (Addr × Obj)) (s : Shared) (σ : L2.St) (ca : CA) (H : Hp) (x y : V) (u1 u2 : Value) (wx wy : W) (w : List W) (Q : VK), Inv X pins σ H s → RelV x u1 → RelV y u2 → Rp D.K ca H wx x → Rp D.K ca H wy y → g wx wy = some w →
    (∀ p vs, H p = none → RpAll D.K ca H w vs → Q (.ref p) (upd H p (.lst vs))) → wpAny (model X.prog X.w) X.A (f u1 u2) (EP X pins σ Q) X.xe s
def fBin (g : W → W → Option (List W)) (a b : EM) : LM := fun m => (a m).bind fun x m => (b m).bind fun y m => opt (g x y) m
theorem df_op {op : Operator} {g : W → W → Option (List W)} (ho : DOpF D X (binaryOp op) g) (ha : DE D Wx X a ma) (hb : DE D Wx X b mb) : DF D Wx X (.BinOp a op b pos) (fBin g ma mb) := by
  refine ⟨fun pins s σ H Q I h => ?_⟩
  obtain ⟨ca, ms, r, h⟩ := h
  have h' : RdE D Wx ma σ H fun x H1 => RdE D Wx mb σ H1 fun y H2 => ∃ ca wx wy w, Rp D.K ca H2 wx x ∧ Rp D.K ca H2 wy y ∧ g wx wy = some w ∧ ∀ p vs, H2 p = none → RpAll D.K ca H2 w vs → Q (.ref p) (upd H2 p (.lst vs)) := by
    refine RdE.bind r h fun wx x ms1 ca1 H1 x1 r1 p1 h1 => RdE.bind r1 (h1.ext x1) fun wy y ms2 ca2 H2 x2 r2 p2 h2 => ?_
    obtain ⟨w, e, q⟩ := Po.opt h2
    exact ⟨ca2, wx, wy, w, Rp.mono x2 _ _ p1, p2, e, fun p vs np pv => q p vs ca2 H2 (x1.trans x2) r2 np pv⟩
  exact wpAny_BinOp (binT ha hb I h' fun v u s2 x y H2 I2 rx ry ⟨ca, wx, wy, w, p1, p2, e, q⟩ => ho pins s2 σ ca H2 x y v u wx wy w Q I2 rx ry p1 p2 e q)
def gCatL : W → W → Option (List W)
  | .list xs, .list ys => if szOk (xs.length + ys.length) = true then some (xs ++ ys) else none
  | _, _ => none
theorem dop_catL (hK : D.K = X.K) : DOpF D X (binaryOp .Add) gCatL := fun pins s σ ca H x y u1 u2 wx wy w Q I r1 r2 p1 p2 e q => by
  unfold gCatL at e
  split at e
  · rename_i xs ys
    by_cases hz : szOk (xs.length + ys.length) = true
    · rw [if_pos hz] at e
      cases e
      have hz := szOk_le hz
      obtain ⟨a, vs, rfl, f1, ra⟩ := p1.lst
      obtain ⟨b, us, rfl, f2, rb⟩ := p2.lst
      cases r1
      cases r2
      obtain ⟨z, its, n, rv, hl, e⟩ := DL.Inv.fzl I (by rw [← hK]; exact f1)
      obtain ⟨z2, its2, n2, rv2, hl2, e2⟩ := DL.Inv.fzl I (by rw [← hK]; exact f2)
      have hlen : its.length + its2.length ≤ sizeLine := by rw [← hl, ← hl2, ra.length, rb.length]; exact hz
      refine PySem.P.add_list e e2 ?_ (by rw [List.size_toArray, List.size_toArray]; exact hlen)
      have ea : its.toArray ++ its2.toArray = (its ++ its2).toArray := by simp
      rw [ea]
      exact ⟨.ref _, _, I.lnew (t' := s.toks) (rv.append rv2) (by rw [List.length_append, ra.length, rb.length]; exact hz), rfl, q _ _ I.fresh (ra.append rb)⟩
    · rw [if_neg hz] at e; cases e
  · cases e
/-- a list times an int -/
def repOk (n : Nat) (k : Int) : Bool := Nat.ble k.natAbs 1000000 && szOk (n * k.toNat)
def gRepL : W → W → Option (List W)
  | .list xs, .int k => if repOk xs.length k = true then some (List.replicate k.toNat xs).flatten else none
  | _, _ => none
theorem fold_rep (its : List Value) (m : Nat) : List.foldl (fun a b => a ++ b) #[] (List.replicate (if its.toArray.isEmpty = true then 0 else m) its.toArray) = (List.replicate m its).flatten.toArray := by
  have h : ∀ j, List.foldl (fun a b => a ++ b) #[] (List.replicate j its.toArray) = (List.replicate j its).flatten.toArray := fun j => by
    have e := foldl_rep its j []
    simpa using e
  cases its with
  | nil => rw [h]; simp
  | cons y ys => rw [if_neg (by simp)]; exact h m
theorem dop_repL (hK : D.K = X.K) : DOpF D X (binaryOp .Mult) gRepL := fun pins s σ ca H x y u1 u2 wx wy w Q I r1 r2 p1 p2 e q => by
  unfold gRepL at e
  split at e
  · rename_i xs k
    by_cases hz : repOk xs.length k = true
    · rw [if_pos hz] at e
      cases e
      unfold repOk at hz
      rw [Bool.and_eq_true] at hz
      have hk := Nat.le_of_ble_eq_true hz.1
      have hz2 := szOk_le hz.2
      obtain ⟨a, vs, rfl, f1, ra⟩ := p1.lst
      obtain rfl := p2.int
      cases r1
      obtain ⟨t, rfl⟩ := r2
      obtain ⟨z, its, n, rv, hl, e⟩ := DL.Inv.fzl I (by rw [← hK]; exact f1)
      have hz3 : its.length * k.toNat ≤ sizeLine := by rw [← hl, ra.length]; exact hz2
      have ty : s.TypeIs (.ref a) "list" := ⟨_, e, rfl⟩
      have road := AutoListH.list___mul___list_int_3 a its.toArray n k t (by rw [fitsIndex_both (by omega) (by omega)]; exact Bool.false_ne_true)
        (by have : (sizeLine : Nat) ≤ (2 ^ 63 - 1) / 8 := by decide
            rw [List.size_toArray]; omega) (by rw [List.size_toArray, notLongL hz3]; exact Bool.false_ne_true)
      have last : EP X pins σ Q (.ref s.heap.objs.size) { s with heap := s.heap.push { cls := .type "list", data := .seq (List.replicate k.toNat its).flatten.toArray } } :=
        ⟨.ref s.heap.objs.size, _, I.lnew (t' := s.toks) (rv.rep k.toNat) (by rw [PyProof.Rows.lm_len_rep_flat, ra.length, Nat.mul_comm]; exact hz2), rfl, q _ _ I.fresh (ra.rep k.toNat)⟩
      rw [← fold_rep] at last
      refine wpAny_binaryOp_repeat_ref (T := "list") (U := "int") (by decide) ty (fun s' => typeIs_int s' k t) noFill_list_mul F.fills_int_mul F.slot_int_rmul repeat_list F.slot_int_index.lookup ?_
      refine call_meets F.slot_int_rmul (typeIs_int s k t) F.entry_int_rmul (F.args_int_rmul_2 _ _) (int___rmul___int_list k t a its.toArray n) ⟨e, rfl, ty, ?_⟩
      exact call_meets F.slot_list_mul ty F.entry_list_mul (F.args_list_mul_2 _ _) road ⟨e, last⟩
    · rw [if_neg hz] at e; cases e
  · cases e
def gRepT : W → W → Option W
  | .tuple xs, .int k => if (decide (2 ≤ k) && decide (k ≤ 1000) && Nat.ble 1 xs.length && Nat.ble xs.length 1000) = true then some (.tuple (List.replicate k.toNat xs).flatten) else none
  | _, _ => none
theorem dop_repT (hK : D.K = X.K) : DOp D X (binaryOp .Mult) gRepT := dop_of op_repT fun ca H x y wx wy w Q p1 p2 e q => by
  unfold gRepT at e
  split at e
  · rename_i xs k
    by_cases hz : (decide (2 ≤ k) && decide (k ≤ 1000) && Nat.ble 1 xs.length && Nat.ble xs.length 1000) = true
    · rw [if_pos hz] at e
      cases e
      simp only [Bool.and_eq_true, decide_eq_true_eq] at hz
      obtain ⟨⟨⟨h1, h2⟩, h3⟩, h4⟩ := hz
      have h3 := Nat.le_of_ble_eq_true h3
      have h4 := Nat.le_of_ble_eq_true h4
      obtain ⟨a, vs, rfl, f, ra⟩ := p1.tup
      refine ⟨a, k, vs, rfl, p2.int, by rw [← hK]; exact f.sq, fun z => by rw [z] at ra; have := ra.length; simp at this; omega, h1, h2, by rw [ra.length]; exact h4, fun p np => ?_⟩
      have g := Same.upd_new (o := .tup (List.replicate k.toNat vs).flatten) np
      exact q _ _ g (rp_tup (.inl upd_same) (RpAll.mono (.of_same g) _ _ (ra.rep _)))
    · rw [if_neg hz] at e; cases e
  · cases e
def gMul : W → W → Option W := fun a b => (gMulI a b).or (gRepT a b)
theorem dop_mul (hK : D.K = X.K) : DOp D X (binaryOp .Mult) gMul := dop_mulI.or (dop_repT hK)
end
end DL
namespace DL
open PySem PySem.Spec PyProof.Rows L2

/-! ### iterators of new pairs -/
/-- records of ours have turned -/
theorem turnedL {X : Cx} {pins : List (Addr × Obj)} {σ : L2.St} {H : Hp} {s : Shared} {h' : Heap} {t' : Nat} {ch : List Addr} (I : Inv X pins σ H s) (k : ∀ b o, b ∉ ch → s.heap.get? b = some o → h'.get? b = some o) (hf : ∀ b ∈ ch, FpOk X pins H b) :
    Inv X pins σ H { s with heap := h', toks := t' } := by
  have nit : ∀ b u, H b = some u → b ∉ ch := fun b u e z => by rw [(hf b z).1] at e; cases e
  refine I.step (g' := s.gens) (d' := s.drawn) (ch := ch) (fun b hb => ?_) (fun b o _ _ hc e _ => k b o hc e) (fun b o _ _ hc e _ => ⟨o.slots, k b o hc e⟩) (fun _ _ _ _ n => n) (fun b o hc e => ⟨o, k b o hc e⟩) (fun _ _ e => e) (fun _ _ _ e => e)
    (fun b ps e => ⟨#[], by rw [e]; simp⟩) (fun m hm => ?_) (fun b u e => ?_) I.bare
  · obtain ⟨_, f1, _, f3, f4, f5⟩ := hf b hb
    exact ⟨f3, f1, f4, f5⟩
  · obtain ⟨o, es, ep, ho, r⟩ := hm
    exact ⟨o, es, ep, k _ o (fun z => (hf _ z).2.1 rfl) ho, r⟩
  · refine (I.hok b u e).stay (fun c v hc q => k c v ?_ q) (fun _ q => q) fun _ _ q => q
    rcases hc with z | z
    · rw [z]; exact nit b u e
    · exact nit c _ z

/-- n new pairs, while Fz holds -/
def Itp (n : Nat) (Fz : Hp → Prop) (PV : Nat → V → V → Prop) : It :=
  ⟨fun i H => i < n ∧ Fz H, fun i H v H' => ∃ T x y, v = .ref T ∧ H T = none ∧ H' = upd H T (.tup [x, y]) ∧ PV i x y, fun i H => i = n ∧ Fz H⟩
theorem turn_pairs {P : Program} {w : World} {K : PySem.W.Frag} {tg : Expr} {I : Addr} {recs wr fp : List Addr} {n : Nat} {ζ : Type} {Rec : Nat → Heap → Prop} {Sq : ζ → Heap → Prop} {Ok : ζ → Prop} {Fz : Hp → Prop} {Pa : ζ → Nat → Value → Value → Prop} {PV : Nat → V → V → Prop}
    (mem : I ∈ recs) (sub : ∀ b ∈ wr, b ∈ recs) (obj : ∀ i h, Rec i h → ∀ b ∈ recs, ∃ o, h.get? b = some o ∧ ∀ v, o.data ≠ .cell v) (keep : ∀ i h h', Rec i h → (∀ b ∈ recs, ∀ o, h.get? b = some o → h'.get? b = some o) → Rec i h')
    (hW : ∀ (A : Around) (z : ζ), A.handled = none → Ok z → GoesN P w A tg I fp wr n (fun i h₀ v h => ∃ T a b, v = .ref T ∧ h₀.objs.size ≤ T ∧ Pa z i a b ∧ h.IsTuple T #[a, b]) (fun i h => Rec i h ∧ Sq z h))
    (hz : ∀ (X : Cx) pins σ H s (i : Nat), X.prog = P → X.w = w → X.K = K → Inv X pins σ H s → (∀ b ∈ recs, H b = none) → Rec i s.heap → Fz H → ∃ z, Ok z ∧ Sq z s.heap ∧ ∀ i a b, Pa z i a b → ∃ x y, RelV x a ∧ RelV y b ∧ PV i x y)
    (self : ∀ (A : Around) (i : Nat) (s : Shared) (Q : Value → Shared → Prop) (E : Value → Shared → Prop), Rec i s.heap → Q (.ref I) s → wpAny (model P w) A (pyIter (.ref I)) Q E s) :
    Turn P w K tg (Itp n Fz PV) recs I Rec where
  mem := mem
  obj := obj
  keep := keep
  self := self
  item := by
    intro X hP hw hK hc i pins s σ H E J hf st hg
    obtain ⟨hi, fz⟩ := hg
    obtain ⟨z, ok, sq, rel⟩ := hz X pins σ H s _ hP hw hK J (fun b hb => (hf b hb).1) st fz
    refine (hW X.A z (J.ok.hd hc) ok).goes i s (fun u s2 => ∃ x H', Inv X pins σ H' s2 ∧ RelV x u ∧ (Itp n Fz PV).yld i H x H' ∧ Rec (i + 1) s2.heap ∧ ∀ b ∈ recs, H' b = none) E hi ⟨st, sq⟩ fun v h' tk hY st' hk _ => ?_
    obtain ⟨T, a, b, rfl, hT, hp, hTT⟩ := hY
    obtain ⟨x, y, rx, ry, pv⟩ := rel i a b hp
    have hn : H T = none := J.hok.fresh hT
    have new : ObjOk X.prog X.w (upd H T (.tup [x, y])) h' T (.tup [x, y]) := ⟨by show 2 ≤ sizeLine; decide, [a, b], .cons rx (.cons ry .nil), hTT⟩
    have J1 : Inv X pins σ (upd H T (.tup [x, y])) { s with heap := h', toks := tk } := J.turnedNew (ch := wr) hk (fun b hb => hf b (sub b hb)) hT new
    refine ⟨.ref T, _, J1, rfl, ⟨T, x, y, rfl, hn, rfl, pv⟩, st'.1, fun b hb => ?_⟩
    obtain ⟨o, ho, _⟩ := obj _ _ st b hb
    rw [upd_ne (Nat.ne_of_lt (Nat.lt_of_lt_of_le (Heap.lt_size ho) hT))]
    exact (hf b hb).1
  done := by
    intro X hP hw hK hc i pins s σ H E J hf st hg
    obtain ⟨rfl, fz⟩ := hg
    obtain ⟨z, ok, sq, rel⟩ := hz X pins σ H s _ hP hw hK J (fun b hb => (hf b hb).1) st fz
    exact (hW X.A z (J.ok.hd hc) ok).stops s (fun s1 => Inv X pins σ H s1) E ⟨st, sq⟩ fun h' tk hk _ => turnedL J hk fun b hb => hf b (sub b hb)

theorem GoesN.st {prog : Program} {w : World} {A : Around} {target : Expr} {I : Addr} {fp wr : List Addr} {n n' : Nat} {Y : Nat → Heap → Value → Heap → Prop} {St St' : Nat → Heap → Prop} (W : GoesN prog w A target I fp wr n Y St) (hn : n = n') (e : ∀ i h, St i h ↔ St' i h) : GoesN prog w A target I fp wr n' Y St' := by
  subst hn
  exact ⟨W.sub, fun i h h' st k => (e _ _).mp (W.frame i h h' ((e _ _).mpr st) k), fun i s Q E hi st q => W.goes i s Q E hi ((e _ _).mpr st) fun v h' tk y st' => q v h' tk y ((e _ _).mp st'), fun s Q E st => W.stops s Q E ((e _ _).mpr st), fun i s Q E st => W.self i s Q E ((e _ _).mpr st)⟩

/-! enumerate(v), v a list or a tuple -/
theorem enum_new1 {v : Value} {o : Obj} {Hc : Heap → Prop} (B : Begins v o Hc) :
    Meets (Builtin.«enumerate.__new__» ⟨[.type "enumerate", v], []⟩) (fun _ R s => Hc s.heap ∧
      R (.ok (.ret (.ref (s.heap.push o).objs.size))) { s with heap := (s.heap.push o).push { cls := .type "enumerate", data := .fields #[.none, .bool false, .ref s.heap.objs.size, rawInt 0, .none, .none] } }) :=
  .of_wp fun prog w A R s h => by
    obtain ⟨hp, g, d, tk, os⟩ := s
    obtain ⟨h1, h⟩ := h
    have hsub := sub_enumerate
    have q1 : ∀ {A' : Around} {E : Value → Shared → Prop} {Q : Value → Shared → Prop}, Q (.ref hp.objs.size) ⟨hp.push o, g, d, tk, os⟩ → wpAny (model prog w) A' (pyIter v) Q E ⟨hp, g, d, tk, os⟩ := fun q => B.iter prog w _ _ ⟨hp, g, d, tk, os⟩ _ h1 q
    wp_walk using q1
    refine wpAny_stack_any fun st => wpAny_pure ?_
    split
    · rename_i c _ _ _ _ _
      cases (c == Value.type "enumerate") <;> (wp_walk using q1; exact ⟨_, rfl, h⟩)
    · wp_walk using q1
      exact ⟨_, rfl, h⟩
theorem enum_call1 {prog : Program} {w : World} {A : Around} {E : Value → Shared → Prop} {s : Shared} {v : Value} {o : Obj} {Hc : Heap → Prop} {Q : Value → Shared → Prop} (B : Begins v o Hc) (h1 : Hc s.heap)
    (h : ∀ h', IsEnum h' (s.heap.objs.size + 1) s.heap.objs.size 0 .none → h'.get? s.heap.objs.size = some o → h'.objs.size = s.heap.objs.size + 2 → (∀ b o, s.heap.get? b = some o → h'.get? b = some o) → Q (.ref (s.heap.objs.size + 1)) { s with heap := h' }) :
    wpAny (model prog w) A (call (.type "enumerate") [v]) Q E s := by
  have hz : (s.heap.push o).objs.size = s.heap.objs.size + 1 := Heap.size_push ..
  generalize hen : ({ cls := .type "enumerate", data := .fields #[.none, .bool false, .ref s.heap.objs.size, rawInt 0, .none, .none] } : Obj) = en
  have he : ((s.heap.push o).push en).get? (s.heap.objs.size + 1) = some en := by
    rw [← hz]
    exact Heap.get?_push_size _ (by rw [← hen]; rfl)
  refine callType_new F.called_enumerate (by decide) (F.typeCall_enumerate_1 _) (F.newCall_enumerate_1 _) (fun obj => F.args_object_init_2 obj _) F.entry_enumerate_new (enum_new1 B) ⟨h1, ?_⟩
  show _ ∧ _
  rw [hz, hen]
  exact ⟨⟨_, he, by rw [← hen]⟩, h _ (by unfold IsEnum; rw [he, ← hen]) (Heap.get?_push_of_some _ (Heap.get?_push_size _ B.free)) (by rw [Heap.size_push, hz]) fun b o x => Heap.get?_push_of_some _ (Heap.get?_push_of_some _ x)⟩

/-- what is read: a list (true), a tuple -/
def SqK (K : PySem.W.Frag) (H : Hp) (k : Bool) (a : Addr) (vs : List V) : Prop := if k = true then SqL K H a vs else SqT K H a vs
def itO (k : Bool) (a : Addr) : Obj := if k = true then { cls := .type "list_iterator", data := .fields #[.ref a, .int 0 0] } else { cls := .type "tuple_iterator", data := .fields #[.ref a, .int 0 0] }
def isK (k : Bool) (h : Heap) (a : Addr) (its : Array Value) : Prop := if k = true then h.IsList a its else h.IsTuple a its
def iterK (k : Bool) (h : Heap) (it a : Addr) (i : Nat) : Prop := if k = true then h.IsListIter it a i else h.IsTupleIter it a i
theorem begK (k : Bool) (a : Addr) (its : Array Value) : Begins (.ref a) (itO k a) fun h => isK k h a its := by
  cases k with
  | true => exact begins_list a its
  | false => exact begins_tuple a its
theorem drawsK {prog : Program} {w : World} {A : Around} (hh : A.handled = none) (k : Bool) (it a : Addr) (hne : a ≠ it) (its : Array Value) : Draws prog w A it [it, a] its.size (fun i v => its[i]? = some v) (fun i h => iterK k h it a i ∧ isK k h a its) := by
  cases k with
  | true => exact Draws.list hh it a hne its
  | false => exact Draws.tuple hh it a hne its
theorem iterK_obj {k : Bool} {h : Heap} {it a : Addr} {i : Nat} (x : iterK k h it a i) : ∃ o, h.get? it = some o ∧ ∀ v, o.data ≠ .cell v := by
  cases k with
  | true => obtain ⟨o, ho, hc, hd⟩ := x; exact ⟨o, ho, fun v q => by rw [hd] at q; cases q⟩
  | false => obtain ⟨o, ho, hc, hd⟩ := x; exact ⟨o, ho, fun v q => by rw [hd] at q; cases q⟩
theorem iterK_at {k : Bool} {h h' : Heap} {it a : Addr} {i : Nat} (x : iterK k h it a i) (e : ∀ o, h.get? it = some o → h'.get? it = some o) : iterK k h' it a i := by
  cases k with
  | true => obtain ⟨o, ho, r⟩ := x; exact ⟨o, e o ho, r⟩
  | false => obtain ⟨o, ho, r⟩ := x; exact ⟨o, e o ho, r⟩
theorem iterK_new {k : Bool} {h : Heap} {it a : Addr} (e : h.get? it = some (itO k a)) : iterK k h it a 0 := by
  cases k with
  | true => exact ⟨_, e, rfl, rfl⟩
  | false => exact ⟨_, e, rfl, rfl⟩
theorem seqK {X : Cx} {pins : List (Addr × Obj)} {σ : L2.St} {H : Hp} {s : Shared} {k : Bool} {a : Addr} {vs : List V} (I : Inv X pins σ H s) (h : SqK X.K H k a vs) : ∃ its : List Value, Vals vs its ∧ isK k s.heap a its.toArray ∧ vs.length ≤ sizeLine := by
  cases k with
  | true => obtain ⟨its, r, p, z⟩ := I.list h; exact ⟨its, r, p.isList, z⟩
  | false => obtain ⟨its, r, p, z⟩ := I.tuple h; exact ⟨its, r, p, z⟩
theorem sqK_tracked {K : PySem.W.Frag} {H : Hp} {k : Bool} {a : Addr} {vs : List V} (h : SqK K H k a vs) : (∃ o, H a = some o) ∨ ∃ o, K.lookup a = some o := by
  cases k with
  | true =>
    rcases (show SqL K H a vs from h) with (h | ⟨o, h⟩) | ⟨o, _, _, h, _⟩
    · exact .inl ⟨_, h⟩
    · exact .inl ⟨_, h⟩
    · exact .inr ⟨o, h⟩
  | false =>
    rcases (show SqT K H a vs from h) with (h | ⟨o, h⟩) | ⟨o, _, _, h, _⟩
    · exact .inl ⟨_, h⟩
    · exact .inl ⟨_, h⟩
    · exact .inr ⟨o, h⟩
end DL
namespace DL
open PySem PySem.Spec PyProof.Rows L2

def PVen (lo : Int) (vs : List V) : Nat → V → V → Prop := fun i x y => x = .int (lo + i) ∧ vs[i]? = some y
theorem turn_en {P : Program} {w : World} {K : PySem.W.Frag} {elts : List Expr} {kk : Nat} {tpos : Pos} {lo : Int} {vs : List V} (k : Bool) (a e it : Addr) :
    Turn P w K (.Tuple elts kk tpos) (Itp vs.length (fun H => SqK K H k a vs) (PVen lo vs)) [e, it] e (fun i h => (∃ old, IsEnum h e it (lo + (i : Int)) old) ∧ iterK k h it a i ∧ e ≠ it ∧ a ≠ it ∧ e ≠ a) := by
  have mem2 : ∀ b, b ∈ [e, it] → b = e ∨ b = it := fun b hb => by simpa using hb
  refine turn_pairs (I := e) (recs := [e, it]) (wr := [e, it]) (fp := [e, it, a]) (ζ := List Value) (Sq := fun its h => isK k h a its.toArray) (Ok := fun its => Vals vs its ∧ e ≠ it ∧ a ≠ it ∧ e ≠ a) (Pa := fun its i x y => ∃ t, x = .int (lo + i) t ∧ its[i]? = some y) (by simp) (fun b hb => hb) (fun i h st b hb => ?_) (fun i h h' st kp => ?_) (fun A its hh ok => ?_) (fun X pins σ H s i hP hw hK J hn st fz => ?_) (fun A i s Q E st q => ?_)
  · obtain ⟨⟨old, he⟩, hi, _⟩ := st
    rcases mem2 b hb with rfl | rfl
    · exact ⟨_, he, fun v q => nomatch q⟩
    · exact iterK_obj hi
  · obtain ⟨⟨old, he⟩, hi, hne⟩ := st
    exact ⟨⟨old, kp e (by simp) _ he⟩, iterK_at hi fun o q => kp it (by simp) o q, hne⟩
  · obtain ⟨rv, h1, h2, h3⟩ := ok
    have W := GoesN.enumFrom (elts := elts) (x1 := kk) (pos := tpos) (w := w) (prog := P) lo (drawsK (A := A.in1) hh k it a h2 its.toArray) e h1 (by simp [h1, h3]) (by simp)
    refine GoesN.st (W.mono fun i h0 v h _ ⟨T, t, x, ev, hT, hx, ht⟩ => ⟨T, _, x, ev, hT, ⟨t, rfl, by simpa using hx⟩, ht⟩) (by rw [List.size_toArray]; exact rv.length.symm) fun i h => ⟨fun ⟨a1, a2, a3⟩ => ⟨⟨a1, a2, h1, h2, h3⟩, a3⟩, fun ⟨⟨a1, a2, _⟩, a3⟩ => ⟨a1, a2, a3⟩⟩
  · subst hP hw hK
    obtain ⟨its, rv, p, hz⟩ := seqK J fz
    refine ⟨its, ⟨rv, st.2.2⟩, p, fun i x y hp => ?_⟩
    obtain ⟨t, rfl, hy⟩ := hp
    have hi : i < vs.length := by
      rw [rv.length]
      rcases Nat.lt_or_ge i its.length with h | h
      · exact h
      · rw [List.getElem?_eq_none h] at hy; cases hy
    obtain ⟨u, hu, ru⟩ := rv.get (i := i) (x := vs[i]) (by simp [hi])
    rw [hu] at hy
    cases hy
    exact ⟨.int (lo + i), vs[i], ⟨t, rfl⟩, ru, rfl, by simp [hi]⟩
  · obtain ⟨⟨old, he⟩, _⟩ := st
    exact wpAny_pyIter_enum he q
/-! ### what is walked, as data -/
structure DWalk (K : PySem.W.Frag) (J : It) (ca : CA) (H0 : Hp) (xs : List W) : Prop where
  goes : ∀ i H, i < xs.length → Kp H0 H → J.go i H
  stops : ∀ H, Kp H0 H → J.stop xs.length H
  yields : ∀ (i : Nat) H x H' w, Kp H0 H → xs[i]? = some w → J.yld i H x H' → Same H H' ∧ Rp K ca H' w x
def RdI (D : DC) (Wx : WX) (m : LM) : TI := fun σ H R => ∃ ca ms, Rel D ca σ H ms ∧ Po D Wx σ ca H (m ms) (fun xs ms' => ∀ J ca' H', Ext ca H ca' H' → Rel D ca' σ H' ms' → DWalk D.K J ca' H' xs → R J H')
def DI (D : DC) (Wx : WX) (X : Cx) (tg iter : Expr) (m : LM) : Prop := PI X tg iter (RdI D Wx m)
theorem PI.mono {X : Cx} {tg e : Expr} {t t' : TI} (h : PI X tg e t) (f : ∀ σ H Q, t' σ H Q → t σ H Q) : PI X tg e t' := ⟨fun pins s σ H Q I hw => h.run pins s σ H Q I (f σ H Q hw)⟩
section
variable {D : DC} {Wx : WX} {X : Cx} {tg e e2 : Expr} {ma mb : EM} {mr : LM}
theorem dwalk_list {K : PySem.W.Frag} {ca : CA} {H : Hp} {a : Addr} {vs : List V} {xs : List W} (f : FzL K H a vs) (r : RpAll K ca H xs vs) : DWalk K (Itl K a) ca H xs :=
  ⟨fun i H' hi k => ⟨vs, vs[i]'(by rw [r.length]; exact hi), (f.mono k).sq, by simp [show i < vs.length by rw [r.length]; exact hi]⟩, fun H' k => ⟨vs, (f.mono k).sq, by rw [r.length]; exact Nat.le_refl _⟩,
    fun i H' x H2 w k e y => by
      obtain ⟨rfl, y⟩ := y
      have r' : RpAll K ca H2 xs vs := RpAll.mono ⟨k, List.prefix_refl ca⟩ _ _ r
      obtain ⟨v, e1, e2⟩ := r'.get e
      have := y vs (f.mono k).sq
      rw [e1] at this
      cases this
      exact ⟨fun _ _ h => h, e2⟩⟩
theorem dwalk_tup {K : PySem.W.Frag} {ca : CA} {H : Hp} {a : Addr} {vs : List V} {xs : List W} (f : FzT K H a vs) (r : RpAll K ca H xs vs) : DWalk K (Itt K a) ca H xs :=
  ⟨fun i H' hi k => ⟨vs, vs[i]'(by rw [r.length]; exact hi), (f.mono k).sq, by simp [show i < vs.length by rw [r.length]; exact hi]⟩, fun H' k => ⟨vs, (f.mono k).sq, by rw [r.length]; exact Nat.le_refl _⟩,
    fun i H' x H2 w k e y => by
      obtain ⟨rfl, y⟩ := y
      have r' : RpAll K ca H2 xs vs := RpAll.mono ⟨k, List.prefix_refl ca⟩ _ _ r
      obtain ⟨v, e1, e2⟩ := r'.get e
      have := y vs (f.mono k).sq
      rw [e1] at this
      cases this
      exact ⟨fun _ _ h => h, e2⟩⟩
def rngW (lo : Int) (n : Nat) : List W := (List.range n).map fun (i : Nat) => .int (lo + (i : Int))
theorem dwalk_rng {K : PySem.W.Frag} {ca : CA} {H : Hp} {lo : Int} {n : Nat} : DWalk K (Itr lo n) ca H (rngW lo n) := by
  have hl : (rngW lo n).length = n := by simp [rngW]
  refine ⟨fun i H' hi k => ?_, fun H' k => ?_, fun i H' x H2 w k e y => ?_⟩
  · rw [hl] at hi; exact hi
  · rw [hl]; exact Nat.le_refl _
  · obtain ⟨rfl, rfl⟩ := y
    unfold rngW at e
    rw [List.getElem?_map] at e
    obtain ⟨j, e1, rfl⟩ := Option.map_eq_some_iff.mp e
    have e2 : i = j := by
      by_cases hi : i < n
      · rw [List.getElem?_range hi] at e1; exact Option.some.inj e1
      · rw [List.getElem?_eq_none (by simpa using Nat.le_of_not_lt hi)] at e1; cases e1
    subst e2
    exact ⟨fun _ _ h => h, rp_int⟩
/-- a list -/
def iL (a : EM) : LM := fun m => (a m).bind fun x m => match x with
  | .list xs => .ok xs m
  | _ => .bad
def iT (a : EM) : LM := fun m => (a m).bind fun x m => match x with
  | .tuple xs => .ok xs m
  | _ => .bad
theorem di_list (hK : D.K = X.K) (h : DE D Wx X e ma) : DI D Wx X tg e (iL ma) := PI.mono (pi_list h) fun σ H R ⟨ca, ms, r, h⟩ => RdE.bind r h fun w v ms1 ca1 H1 x1 r1 p1 h1 => by
  cases w with
  | list xs =>
    obtain ⟨a, vs, rfl, f, ra⟩ := p1.lst
    refine ⟨a, rfl, ⟨vs, by rw [← hK]; exact f.sq⟩, ?_⟩
    rw [← hK]
    exact h1 _ ca1 H1 x1 r1 (dwalk_list f ra)
  | _ => exact h1.elim
theorem di_tup (hK : D.K = X.K) (h : DE D Wx X e ma) : DI D Wx X tg e (iT ma) := PI.mono (pi_tup h) fun σ H R ⟨ca, ms, r, h⟩ => RdE.bind r h fun w v ms1 ca1 H1 x1 r1 p1 h1 => by
  cases w with
  | tuple xs =>
    obtain ⟨a, vs, rfl, f, ra⟩ := p1.tup
    refine ⟨a, rfl, ⟨vs, by rw [← hK]; exact f.sq⟩, ?_⟩
    rw [← hK]
    exact h1 _ ca1 H1 x1 r1 (dwalk_tup f ra)
  | _ => exact h1.elim
/-- range -/
def rngOk (i : Int) : Bool := Nat.ble i.natAbs (2 ^ 61)
def rngL1 : List W → Option (List W)
  | [.int j] => if rngOk j = true then some (rngW 0 j.toNat) else none
  | _ => none
def rngL2 : List W → Option (List W)
  | [.int i, .int j] => if (rngOk i && rngOk j) = true then some (rngW i (j - i).toNat) else none
  | _ => none
def iR1 (l : LM) : LM := fun m => (l m).bind fun ws m => opt (rngL1 ws) m
def iR2 (l : LM) : LM := fun m => (l m).bind fun ws m => opt (rngL2 ws) m
theorem rngOk_ok {i : Int} (h : rngOk i = true) : -(2 ^ 62) ≤ i ∧ i < 2 ^ 62 := by
  have := Nat.le_of_ble_eq_true h
  omega
theorem di_range1 {p pos : Pos} (hg : Gl X "range") (hm : X.mg "range" = none) (ha : DA D Wx X [e] mr) (hs : starEach [e] X.env = [(false, eval e X.env)] := by rfl) : DI D Wx X tg (.Call (.Name "range" p) [e] [] pos) (iR1 mr) :=
  PI.mono (pi_range1 hg hm ha hs) fun σ H R ⟨ca, ms, r, h⟩ => RdA.bind r h fun ws vs ms1 ca1 H1 x1 r1 p1 h1 => by
    obtain ⟨xs, ex, q⟩ := Po.opt h1
    unfold rngL1 at ex
    split at ex
    · rename_i j
      by_cases hj : rngOk j = true
      · rw [if_pos hj] at ex
        cases ex
        obtain ⟨v, rfl, h2⟩ := p1.inv1
        exact ⟨j, by rw [h2.int], (rngOk_ok hj).1, (rngOk_ok hj).2, q _ ca1 H1 x1 r1 dwalk_rng⟩
      · rw [if_neg hj] at ex; cases ex
    · cases ex
theorem di_range2 {p pos : Pos} (hg : Gl X "range") (hm : X.mg "range" = none) (ha : DA D Wx X [e, e2] mr) (hs : starEach [e, e2] X.env = [(false, eval e X.env), (false, eval e2 X.env)] := by rfl) (hs2 : starEach [e2] X.env = [(false, eval e2 X.env)] := by rfl) : DI D Wx X tg (.Call (.Name "range" p) [e, e2] [] pos) (iR2 mr) :=
  PI.mono (pi_range2 hg hm ha hs hs2) fun σ H R ⟨ca, ms, r, h⟩ => RdA.bind r h fun ws vs ms1 ca1 H1 x1 r1 p1 h1 => by
    obtain ⟨xs, ex, q⟩ := Po.opt h1
    unfold rngL2 at ex
    split at ex
    · rename_i i j
      by_cases hj : (rngOk i && rngOk j) = true
      · rw [if_pos hj] at ex
        cases ex
        rw [Bool.and_eq_true] at hj
        obtain ⟨v, u, rfl, h2, h3⟩ := p1.inv2
        exact ⟨i, j, by rw [h2.int, h3.int], ⟨(rngOk_ok hj.1).1, (rngOk_ok hj.1).2, (rngOk_ok hj.2).1, (rngOk_ok hj.2).2⟩, q _ ca1 H1 x1 r1 dwalk_rng⟩
      · rw [if_neg hj] at ex; cases ex
    · cases ex
/-- enumerate of a list or a tuple, from 0 -/
def enW (lo : Int) : List W → List W
  | [] => []
  | x :: xs => .tuple [.int lo, x] :: enW (lo + 1) xs
theorem enW_length : ∀ (xs : List W) (lo : Int), (enW lo xs).length = xs.length
  | [], _ => rfl
  | x :: xs, lo => by rw [enW, List.length_cons, List.length_cons, enW_length xs]
theorem enW_get : ∀ (xs : List W) (lo : Int) (i : Nat) (w : W), (enW lo xs)[i]? = some w → ∃ x, xs[i]? = some x ∧ w = .tuple [.int (lo + i), x]
  | [], _, i, w, h => by simp [enW] at h
  | x :: xs, lo, 0, w, h => by
    rw [enW] at h
    simp at h
    exact ⟨x, rfl, by rw [← h]; simp⟩
  | x :: xs, lo, i + 1, w, h => by
    rw [enW, List.getElem?_cons_succ] at h
    obtain ⟨y, e1, e2⟩ := enW_get xs (lo + 1) i w h
    refine ⟨y, by simpa using e1, ?_⟩
    rw [e2]
    have : lo + 1 + (i : Int) = lo + ((i + 1 : Nat) : Int) := by omega
    rw [this]
theorem sqK_of {K : PySem.W.Frag} {ca : CA} {H : Hp} {w : W} {v : V} {ys : List W} (h : Rp K ca H w v) (e : itemsOf w = some ys) : ∃ k a vs, v = .ref a ∧ RpAll K ca H ys vs ∧ ∀ H', Kp H H' → SqK K H' k a vs := by
  cases w with
  | list zs =>
    obtain ⟨a, vs, rfl, f, r⟩ := h.lst
    cases e
    exact ⟨true, a, vs, rfl, r, fun H' k => (f.mono k).sq⟩
  | tuple zs =>
    obtain ⟨a, vs, rfl, f, r⟩ := h.tup
    cases e
    exact ⟨false, a, vs, rfl, r, fun H' k => (f.mono k).sq⟩
  | _ => cases e
theorem dwalk_en {K : PySem.W.Frag} {ca : CA} {H : Hp} {lo : Int} {k : Bool} {a : Addr} {vs : List V} {ys : List W} (r : RpAll K ca H ys vs) (f : ∀ H', Kp H H' → SqK K H' k a vs) : DWalk K (Itp vs.length (fun H => SqK K H k a vs) (PVen lo vs)) ca H (enW lo ys) := by
  refine ⟨fun i H' hi kp => ⟨by rw [r.length]; rwa [enW_length] at hi, f H' kp⟩, fun H' kp => ⟨by rw [enW_length, r.length], f H' kp⟩, fun i H' x H2 w kp e y => ?_⟩
  obtain ⟨T, x1, y1, rfl, nT, rfl, rfl, hy⟩ := y
  obtain ⟨z, e1, rfl⟩ := enW_get ys lo i w e
  have g := Same.upd_new (o := .tup [.int (lo + i), y1]) nT
  obtain ⟨v, e2, e3⟩ := (RpAll.mono ⟨kp.trans (.of_same g), List.prefix_refl ca⟩ _ _ r).get e1
  rw [hy] at e2
  cases e2
  exact ⟨g, rp_tup (.inl upd_same) (by simp only [RpAll]; exact ⟨_, _, rfl, rp_int, _, _, rfl, e3, rfl⟩)⟩
def iEn (a : EM) : LM := fun m => (a m).bind fun x m => match itemsOf x with
  | some xs => .ok (enW 0 xs) m
  | none => .bad
theorem Inv.seen {X : Cx} {pins : List (Addr × Obj)} {σ : L2.St} {H : Hp} {s : Shared} {k : Bool} {a : Addr} {its : Array Value} (I : Inv X pins σ H s) (h : isK k s.heap a its) : a < s.heap.objs.size := by
  cases k with
  | true => obtain ⟨o, ho, _⟩ := h; exact Heap.lt_size ho
  | false => obtain ⟨o, ho, _⟩ := h; exact Heap.lt_size ho
theorem di_enum {p pos tpos : Pos} {elts : List Expr} {kk : Nat} (hK : D.K = X.K) (hg : Gl X "enumerate") (hm : X.mg "enumerate" = none) (ha : DE D Wx X e ma) (hs : starEach [e] X.env = [(false, eval e X.env)] := by rfl) :
    DI D Wx X (.Tuple elts kk tpos) (.Call (.Name "enumerate" p) [e] [] pos) (iEn ma) := by
  refine ⟨fun pins s σ H R I h => ?_⟩
  obtain ⟨ca, ms, r, h⟩ := h
  have pa := pa_cons ha pa_nil hs
  refine Call_ (ld_blt I hg hm boot_enumerate (PyProof.Rows.callWith_type1 (thn (pa.run pos pins s σ H (fun vs H1 => ∃ k a vs' ca1 ys ms', vs = [.ref a] ∧ RpAll D.K ca1 H1 ys vs' ∧ (∀ H', Kp H1 H' → SqK X.K H' k a vs') ∧ Ext ca H ca1 H1 ∧ Rel D ca1 σ H1 ms' ∧ Po D Wx σ ca H (DL.R.ok (enW 0 ys) ms') (fun xs ms' => ∀ J ca' H', Ext ca H ca' H' → Rel D ca' σ H' ms' → DWalk D.K J ca' H' xs → R J H')) I ?_) fun us s1 ⟨vs, H1, I1, r1, q1⟩ => ?_) hs rfl))
  · refine RdE.bind r h fun w v ms1 ca1 H1 x1 r1 p1 h1 => ?_
    cases ei : itemsOf w with
    | none => rw [ei] at h1; exact h1.elim
    | some ys =>
      rw [ei] at h1
      obtain ⟨k, a, vs, rfl, ra, f⟩ := sqK_of p1 ei
      exact ⟨k, a, vs, ca1, ys, ms1, rfl, ra, by rw [← hK]; exact f, x1, r1, h1⟩
  · obtain ⟨k, a, vs', ca1, ys, ms', rfl, ra, f, x1, rl, q⟩ := q1
    cases r1 with
    | cons r1 rr =>
      cases rr
      cases r1
      obtain ⟨its, rv, p', hz⟩ := seqK I1 (f H1 (.refl _))
      refine enum_call1 (begK k a its.toArray) p' fun h' he hit hsz hk => wpAny_pyIter_enum he ?_
      have I2 : Inv X pins σ H1 { s1 with heap := h' } := I1.kept (t' := s1.toks) hk
      have hlt := Inv.seen I1 p'
      refine ⟨s1.heap.objs.size + 1, [s1.heap.objs.size + 1, s1.heap.objs.size], _, _, H1, rfl, I2, turn_en (lo := 0) (vs := vs') k a (s1.heap.objs.size + 1) s1.heap.objs.size, ⟨⟨.none, he⟩, iterK_new hit, Nat.succ_ne_self _, Nat.ne_of_lt hlt, Nat.ne_of_gt (Nat.lt_succ_of_lt hlt)⟩, fun b hb => ?_, ?_⟩
      · have e' : b = s1.heap.objs.size + 1 ∨ b = s1.heap.objs.size := by simpa using hb
        have hge : s1.heap.objs.size ≤ b := by rcases e' with rfl | rfl; exact Nat.le_succ _; exact Nat.le_refl _
        exact I1.fpOk hge (I1.hok.fresh hge)
      · have dw := dwalk_en (lo := 0) ra (by rw [hK]; exact f)
        rw [← hK]
        exact q _ ca1 H1 x1 rl dw
end
end DL
namespace DL
open PySem PySem.Spec PyProof.Rows L2
def PVzp (vs us : List V) : Nat → V → V → Prop := fun i x y => vs[i]? = some x ∧ us[i]? = some y
def ZpRec (k1 k2 : Bool) (a b z TI TO i1 i2 : Addr) (i : Nat) (h : Heap) : Prop :=
  IsZip h z TI TO .none ∧ IsTupOf2 h TI (.ref i1) (.ref i2) ∧ (∃ x y, IsTupOf2 h TO x y) ∧ iterK k1 h i1 a i ∧ iterK k2 h i2 b i
theorem turn_zp {P : Program} {w : World} {K : PySem.W.Frag} {elts : List Expr} {kk : Nat} {tpos : Pos} {vs us : List V} {k1 k2 : Bool} {a b z TI TO i1 i2 : Addr} (S : ZipSep2 z TI TO i1 i2 [i1, a] [i2, b]) (n1 : a ≠ i1) (n2 : b ≠ i2) :
    Turn P w K (.Tuple elts kk tpos) (Itp (min vs.length us.length) (fun H => SqK K H k1 a vs ∧ SqK K H k2 b us) (PVzp vs us)) [z, TI, TO, i1, i2] z (ZpRec k1 k2 a b z TI TO i1 i2) := by
  refine turn_pairs (I := z) (recs := [z, TI, TO, i1, i2]) (wr := [z, TO, i1, i2]) (fp := z :: TI :: TO :: ([i1, a] ++ [i2, b])) (ζ := List Value × List Value) (Sq := fun its h => isK k1 h a its.1.toArray ∧ isK k2 h b its.2.toArray) (Ok := fun its => Vals vs its.1 ∧ Vals us its.2) (Pa := fun its i x y => its.1[i]? = some x ∧ its.2[i]? = some y)
    (by simp) (fun c hc => ?_) (fun i h st c hc => ?_) (fun i h h' st kp => ?_) (fun A its hh ok => ?_) (fun X pins σ H s i hP hw hK J hn st fz => ?_) (fun A i s Q E st q => wpAny_pyIter_zip st.1 q)
  · have e : c = z ∨ c = TO ∨ c = i1 ∨ c = i2 := by simpa using hc
    rcases e with rfl | rfl | rfl | rfl <;> simp
  · obtain ⟨hz, hTI, ⟨x, y, hTO⟩, h1, h2⟩ := st
    have e : c = z ∨ c = TI ∨ c = TO ∨ c = i1 ∨ c = i2 := by simpa using hc
    rcases e with rfl | rfl | rfl | rfl | rfl
    · exact ⟨_, hz, fun v q => nomatch q⟩
    · exact ⟨_, hTI, fun v q => nomatch q⟩
    · exact ⟨_, hTO, fun v q => nomatch q⟩
    · exact iterK_obj h1
    · exact iterK_obj h2
  · obtain ⟨hz, hTI, ⟨x, y, hTO⟩, h1, h2⟩ := st
    exact ⟨kp z (by simp) _ hz, kp TI (by simp) _ hTI, ⟨x, y, kp TO (by simp) _ hTO⟩, iterK_at h1 fun o q => kp i1 (by simp) o q, iterK_at h2 fun o q => kp i2 (by simp) o q⟩
  · have W := GoesN.zip2 (elts := elts) (x1 := kk) (pos := tpos) (prog := P) (w := w) (A := A) S (drawsK (A := A.in1) hh k1 i1 a n1 its.1.toArray) (drawsK (A := A.in1) hh k2 i2 b n2 its.2.toArray)
    refine GoesN.st (W.mono fun i h0 v h _ ⟨T, x, y, ev, hT, hx, hy, ht⟩ => ⟨T, x, y, ev, hT, ⟨by simpa using hx, by simpa using hy⟩, ht⟩) (by rw [List.size_toArray, List.size_toArray, ← ok.1.length, ← ok.2.length]) fun i h => ⟨fun ⟨a1, a2, a3, ⟨a4, a5⟩, a6, a7⟩ => ⟨⟨a1, a2, a3, a4, a6⟩, a5, a7⟩, fun ⟨⟨a1, a2, a3, a4, a6⟩, a5, a7⟩ => ⟨a1, a2, a3, ⟨a4, a5⟩, a6, a7⟩⟩
  · subst hP hw hK
    obtain ⟨its1, rv1, p1, _⟩ := seqK J fz.1
    obtain ⟨its2, rv2, p2, _⟩ := seqK J fz.2
    have at_ : ∀ {xs : List V} {its : List Value} {i : Nat} {x : Value}, Vals xs its → its[i]? = some x → ∃ v, xs[i]? = some v ∧ RelV v x := fun {xs its i x} rv hx => by
      have hi : i < xs.length := by
        rw [rv.length]
        rcases Nat.lt_or_ge i its.length with h | h
        · exact h
        · rw [List.getElem?_eq_none h] at hx; cases hx
      obtain ⟨u, hu, ru⟩ := rv.get (i := i) (x := xs[i]) (by simp [hi])
      rw [hu] at hx
      cases hx
      exact ⟨xs[i], by simp [hi], ru⟩
    refine ⟨(its1, its2), ⟨rv1, rv2⟩, ⟨p1, p2⟩, fun i x y hp => ?_⟩
    obtain ⟨v1, e1, r1⟩ := at_ rv1 hp.1
    obtain ⟨v2, e2, r2⟩ := at_ rv2 hp.2
    exact ⟨v1, v2, r1, r2, e1, e2⟩
def zpW : List W → List W → List W
  | x :: xs, y :: ys => .tuple [x, y] :: zpW xs ys
  | _, _ => []
theorem zpW_length : ∀ (xs ys : List W), (zpW xs ys).length = min xs.length ys.length
  | [], _ => by simp [zpW]
  | _ :: _, [] => by simp [zpW]
  | x :: xs, y :: ys => by rw [zpW, List.length_cons, zpW_length xs ys, List.length_cons, List.length_cons]; omega
theorem zpW_get : ∀ (xs ys : List W) (i : Nat) (w : W), (zpW xs ys)[i]? = some w → ∃ x y, xs[i]? = some x ∧ ys[i]? = some y ∧ w = .tuple [x, y]
  | [], _, i, w, h => by simp [zpW] at h
  | _ :: _, [], i, w, h => by simp [zpW] at h
  | x :: xs, y :: ys, 0, w, h => by
    rw [zpW] at h
    simp at h
    exact ⟨x, y, rfl, rfl, h.symm⟩
  | x :: xs, y :: ys, i + 1, w, h => by
    rw [zpW, List.getElem?_cons_succ] at h
    obtain ⟨a, b, e1, e2, e3⟩ := zpW_get xs ys i w h
    exact ⟨a, b, by simpa using e1, by simpa using e2, e3⟩
theorem dwalk_zp {K : PySem.W.Frag} {ca : CA} {H : Hp} {k1 k2 : Bool} {a b : Addr} {vs us : List V} {xs ys : List W} (r1 : RpAll K ca H xs vs) (r2 : RpAll K ca H ys us) (f1 : ∀ H', Kp H H' → SqK K H' k1 a vs) (f2 : ∀ H', Kp H H' → SqK K H' k2 b us) :
    DWalk K (Itp (min vs.length us.length) (fun H => SqK K H k1 a vs ∧ SqK K H k2 b us) (PVzp vs us)) ca H (zpW xs ys) := by
  have hl : min vs.length us.length = (zpW xs ys).length := by rw [zpW_length, r1.length, r2.length]
  refine ⟨fun i H' hi kp => ⟨by rw [hl]; exact hi, f1 H' kp, f2 H' kp⟩, fun H' kp => ⟨hl.symm, f1 H' kp, f2 H' kp⟩, fun i H' x H2 w kp e y => ?_⟩
  obtain ⟨T, x1, y1, rfl, nT, rfl, hx, hy⟩ := y
  obtain ⟨p, q, e1, e2, rfl⟩ := zpW_get xs ys i w e
  have g := Same.upd_new (o := .tup [x1, y1]) nT
  have x2 : Ext ca H ca (upd H' T (.tup [x1, y1])) := ⟨kp.trans (.of_same g), List.prefix_refl ca⟩
  obtain ⟨v, d1, d2⟩ := (RpAll.mono x2 _ _ r1).get e1
  obtain ⟨u, d3, d4⟩ := (RpAll.mono x2 _ _ r2).get e2
  rw [hx] at d1
  cases d1
  rw [hy] at d3
  cases d3
  exact ⟨g, rp_tup (.inl upd_same) (by simp only [RpAll]; exact ⟨_, _, rfl, d2, _, _, rfl, d4, rfl⟩)⟩
def iZp (a b : EM) : LM := fun m => (a m).bind fun x m => (b m).bind fun y m => match itemsOf x, itemsOf y with
  | some xs, some ys => .ok (zpW xs ys) m
  | _, _ => .bad
section
variable {D : DC} {Wx : WX} {X : Cx} {tg e e2 : Expr} {ma mb : EM} {mr : LM}
theorem di_zip {p pos tpos : Pos} {elts : List Expr} {kk : Nat} (hK : D.K = X.K) (hg : Gl X "zip") (hm : X.mg "zip" = none) (ha : DE D Wx X e ma) (hb : DE D Wx X e2 mb) (hs : starEach [e, e2] X.env = (false, eval e X.env) :: starEach [e2] X.env := by rfl) (hs2 : starEach [e2] X.env = (false, eval e2 X.env) :: starEach [] X.env := by rfl) (hpl : (backTo pos (starEach [e2] X.env)).any (·.1) = false := by rfl) :
    DI D Wx X (.Tuple elts kk tpos) (.Call (.Name "zip" p) [e, e2] [] pos) (iZp ma mb) := by
  refine ⟨fun pins s σ H R I h => ?_⟩
  obtain ⟨ca, ms, r, h⟩ := h
  have pa := pa_cons ha (pa_cons hb pa_nil hs2) hs
  refine Call_ (ld_blt I hg hm PyProof.Rows.boot_zip (PyProof.Rows.callWith_type1 (thn (pa.run pos pins s σ H (fun vs H1 => ∃ k1 k2 a b v1 v2 ca1 xs ys ms', vs = [.ref a, .ref b] ∧ RpAll D.K ca1 H1 xs v1 ∧ RpAll D.K ca1 H1 ys v2 ∧ (∀ H', Kp H1 H' → SqK X.K H' k1 a v1) ∧ (∀ H', Kp H1 H' → SqK X.K H' k2 b v2) ∧ Ext ca H ca1 H1 ∧ Rel D ca1 σ H1 ms' ∧ Po D Wx σ ca H (DL.R.ok (zpW xs ys) ms') (fun xs ms' => ∀ J ca' H', Ext ca H ca' H' → Rel D ca' σ H' ms' → DWalk D.K J ca' H' xs → R J H')) I ?_) fun us s1 ⟨vs, H1, I1, r1, q1⟩ => ?_) hs hpl))
  · refine RdE.bind r h fun w v ms1 ca1 H1 x1 r1 p1 h1 => RdE.bind r1 (h1.ext x1) fun w2 v2 ms2 ca2 H2 x2 r2 p2 h2 => ?_
    cases ei : itemsOf w with
    | none => rw [ei] at h2; exact h2.elim
    | some xs =>
      cases ej : itemsOf w2 with
      | none => rw [ei, ej] at h2; exact h2.elim
      | some ys =>
        rw [ei, ej] at h2
        obtain ⟨k1, a, vs, rfl, ra, f⟩ := sqK_of (Rp.mono x2 _ _ p1) ei
        obtain ⟨k2, b, us, rfl, rb, g⟩ := sqK_of p2 ej
        exact ⟨k1, k2, a, b, vs, us, ca2, xs, ys, ms2, rfl, ra, rb, by rw [← hK]; exact f, by rw [← hK]; exact g, x1.trans x2, r2, h2⟩
  · obtain ⟨k1, k2, a, b, v1, v2, ca1, xs, ys, ms', rfl, ra, rb, f, g, x1, rl, q⟩ := q1
    cases r1 with
    | cons r1 rr =>
      cases rr with
      | cons r2 rr =>
        cases rr
        cases r1
        cases r2
        obtain ⟨its, rv, p', hz⟩ := seqK I1 (f H1 (.refl _))
        obtain ⟨its2, rv2, p2', hz2⟩ := seqK I1 (g H1 (.refl _))
        have l1 := Inv.seen I1 p'
        have l2 := Inv.seen I1 p2'
        refine zip_begins2 (begK k1 a its.toArray) (begK k2 b its2.toArray) p' p2' fun h' hz hTI hTO h1 h2 hsz hk => wpAny_pyIter_zip hz ?_
        have I2 : Inv X pins σ H1 { s1 with heap := h' } := I1.kept (t' := s1.toks) hk
        have S := zip_sep2 (N := s1.heap.objs.size) (fp1 := [a]) (fp2 := [b]) (fun c hc => by rw [List.mem_singleton.mp hc]; exact l1) (fun c hc => by rw [List.mem_singleton.mp hc]; exact l2)
        refine ⟨s1.heap.objs.size + 4, [s1.heap.objs.size + 4, s1.heap.objs.size + 2, s1.heap.objs.size + 3, s1.heap.objs.size, s1.heap.objs.size + 1], _, _, H1, rfl, I2, turn_zp (vs := v1) (us := v2) (k1 := k1) (k2 := k2) S (Nat.ne_of_lt l1) (Nat.ne_of_lt (Nat.lt_succ_of_lt l2)), ⟨hz, hTI, ⟨_, _, hTO⟩, iterK_new h1, iterK_new h2⟩, fun c hc => ?_, ?_⟩
        · have hge : s1.heap.objs.size ≤ c := by
            have e' : c = s1.heap.objs.size + 4 ∨ c = s1.heap.objs.size + 2 ∨ c = s1.heap.objs.size + 3 ∨ c = s1.heap.objs.size ∨ c = s1.heap.objs.size + 1 := by simpa using hc
            rcases e' with rfl | rfl | rfl | rfl | rfl
            · exact Nat.le_add_right _ _
            · exact Nat.le_add_right _ _
            · exact Nat.le_add_right _ _
            · exact Nat.le_refl _
            · exact Nat.le_add_right _ _
          exact I1.fpOk hge (I1.hok.fresh hge)
        · have dw := dwalk_zp ra rb (by rw [hK]; exact f) (by rw [hK]; exact g)
          rw [← hK]
          exact q _ ca1 H1 x1 rl dw
end
end DL
namespace DL
open PySem PySem.Spec PyProof.Rows L2

/-! ### addresses of cells and of own things -/
theorem CellAt.trk {K : PySem.W.Frag} {ca : CA} {H : Hp} : ∀ {c : Cell} {as : List Addr}, CellAt K ca H c as → ∀ b ∈ as, ∃ o, H b = some o
  | .draw _ _ _ _, _, ⟨s, c, l, e, h1, h2, h3⟩, b, hb => by
    subst e
    have e : b = s ∨ b = c ∨ b = l := by simpa using hb
    rcases e with rfl | rfl | rfl
    · exact ⟨_, h1⟩
    · exact ⟨_, h2⟩
    · exact ⟨_, h3⟩
  | .inst _ _, _, ⟨x, dx, fs', e, h1, h2, _⟩, b, hb => by
    subst e
    have e : b = x ∨ b = dx := by simpa using hb
    rcases e with rfl | rfl
    · exact ⟨_, h1⟩
    · exact ⟨_, h2⟩
theorem mem_flat {ca : CA} {b : Addr} (h : b ∈ ca.flatten) : ∃ (k : Nat) (as : List Addr), ca[k]? = some as ∧ b ∈ as := by
  obtain ⟨as, h1, h2⟩ := List.mem_flatten.mp h
  obtain ⟨k, hk⟩ := List.mem_iff_getElem?.mp h1
  exact ⟨k, as, hk, h2⟩
theorem flat_mem {ca : CA} {b : Addr} {k : Nat} {as : List Addr} (h1 : ca[k]? = some as) (h2 : b ∈ as) : b ∈ ca.flatten := List.mem_flatten.mpr ⟨as, List.mem_of_getElem? h1, h2⟩
section
variable {D : DC} {ca : CA} {σ : L2.St} {H : Hp} {ms : MS}
theorem Rel.cell_some (r : Rel D ca σ H ms) (st : D.st = true) {b : Addr} (h : b ∈ ca.flatten) : ∃ o, H b = some o := by
  obtain ⟨k, as, e, hb⟩ := mem_flat h
  have hl := r.len
  rw [if_pos st] at hl
  have hk : k < ca.length := by
    rcases Nat.lt_or_ge k ca.length with h | h
    · exact h
    · rw [List.getElem?_eq_none h] at e; cases e
  have hk2 : k < ms.cells.length := by omega
  exact (r.cells k ms.cells[k] as (by simp [hk2]) e).trk b hb
theorem Rel.ca0_sub (r : Rel D ca σ H ms) {b : Addr} (h : b ∈ D.ca0.flatten) : b ∈ ca.flatten := by
  obtain ⟨t, e⟩ := r.pre
  rw [← e, List.flatten_append]
  exact List.mem_append_left _ h
theorem Rel.ca_split (r : Rel D ca σ H ms) {b : Addr} (h : b ∈ ca.flatten) : b ∈ D.ca0.flatten ∨ b ∈ (ca.drop D.ca0.length).flatten := by
  obtain ⟨t, e⟩ := r.pre
  rw [← e, List.flatten_append] at h
  rcases List.mem_append.mp h with h | h
  · exact .inl h
  · exact .inr (by rw [← e, List.drop_left]; exact h)
theorem Rel.h0_none (r : Rel D ca σ H ms) {L : Addr} (h : H L = none) : D.H0 L = none := by
  cases e : D.H0 L with
  | none => rfl
  | some o =>
    by_cases hm : D.st = true ∧ L ∈ D.ca0.flatten
    · obtain ⟨o', e'⟩ := r.cell_some hm.1 (r.ca0_sub hm.2)
      rw [h] at e'; cases e'
    · have := r.fr L o e (fun st hL => hm ⟨st, hL⟩)
      rw [h] at this; cases this
theorem OwnAt.trk {K : PySem.W.Frag} {p : Addr} : ∀ {x : Sl}, OwnAt K ca H p x → ∃ o, H p = some o
  | .fz _, h => h.elim
  | .ow _, ⟨vs, h, _⟩ => ⟨_, h⟩
  | .od _, ⟨vs, h, _⟩ => ⟨_, h⟩
/-- a thing is guarded: it stays as it is -/
def DC.guard (D : DC) (L : Addr) (o : HO) : DC := { D with H0 := upd D.H0 L o }
theorem SlAt.h0 {H' : Hp} {D' : DC} (hK : D'.K = D.K) (k : Kp H H') (hp : ∀ p o, D.H0 p = none → H p = some o → Mut (some o) → H' p = some o ∧ D'.H0 p = none) : ∀ {x : Sl} {v : V}, SlAt D ca H v x → SlAt D' ca H' v x
  | .fz w, v, h => by
    show Rp D'.K ca H' w v
    rw [hK]
    exact Rp.mono ⟨k, List.prefix_refl ca⟩ _ _ h
  | .ow xs, v, ⟨p, e, h0, vs, h1, h2⟩ => by
    obtain ⟨a, b⟩ := hp p _ h0 h1 trivial
    exact ⟨p, e, b, vs, a, by rw [hK]; exact RpAll.mono ⟨k, List.prefix_refl ca⟩ _ _ h2⟩
  | .od xs, v, ⟨p, e, h0, vs, h1, h2⟩ => by
    obtain ⟨a, b⟩ := hp p _ h0 h1 trivial
    exact ⟨p, e, b, vs, a, by rw [hK]; exact RpKv.mono ⟨k, List.prefix_refl ca⟩ _ _ h2⟩
theorem CellAt.at_ {K : PySem.W.Frag} {H' : Hp} (k : Kp H H') : ∀ {c : Cell} {as : List Addr}, (∀ b ∈ as, ∀ o, H b = some o → H' b = some o) → CellAt K ca H c as → CellAt K ca H' c as
  | .draw _ _ _ _, _, g, ⟨s, c, l, e, h1, h2, h3⟩ => by
    subst e
    exact ⟨s, c, l, rfl, g _ (by simp) _ h1, g _ (by simp) _ h2, g _ (by simp) _ h3⟩
  | .inst _ _, _, g, ⟨x, dx, fs', e, h1, h2, h3⟩ => by
    subst e
    exact ⟨x, dx, fs', rfl, g _ (by simp) _ h1, g _ (by simp) _ h2, RpFs.mono ⟨k, List.prefix_refl ca⟩ _ _ h3⟩
theorem Rel.guard (r : Rel D ca σ H ms) {L : Addr} {o : HO} (h : H L = none) : Rel (D.guard L o) ca σ (upd H L o) ms := by
  have g : Same H (upd H L o) := Same.upd_new h
  have r2 := r.grow g
  refine ⟨r2.len, r2.cells, r2.nd, r2.pre, fun b u e hn => ?_, fun b hb => ?_, r2.slen, fun i x e => ?_, r2.sep, fun b hb => ?_, r2.oca⟩
  · by_cases hb : b = L
    · subst hb
      have e : upd D.H0 b o b = some u := e
      rw [upd_same] at e ⊢
      exact e
    · have e : upd D.H0 L o b = some u := e
      rw [upd_ne hb] at e
      exact r2.fr b u e hn
  · show upd D.H0 L o b = none
    have hb' : b ≠ L := fun z => by
      subst z
      by_cases st : D.st = true
      · obtain ⟨o', e'⟩ := r.cell_some st (by obtain ⟨t, e⟩ := r.pre; rw [← e, List.flatten_append]; have hb2 : b ∈ (ca.drop D.ca0.length).flatten := hb; rw [← e, List.drop_left] at hb2; exact List.mem_append_right _ hb2)
        rw [h] at e'; cases e'
      · have hl := r.len
        rw [if_neg st] at hl
        have hb2 : b ∈ (ca.drop D.ca0.length).flatten := hb
        rw [hl.2, List.drop_length] at hb2
        cases hb2
    rw [upd_ne hb']
    exact r.new b hb
  · obtain ⟨v, e1, q⟩ := r.slots i x e
    refine ⟨v, e1, SlAt.h0 (D := D) (D' := D.guard L o) rfl (.of_same g) (fun p u h0 hp _ => ⟨g _ _ hp, ?_⟩) q⟩
    show upd D.H0 L o p = none
    rw [upd_ne (fun z => by subst z; rw [h] at hp; cases hp)]
    exact h0
  · show ∃ u, upd D.H0 L o b = some u
    by_cases hb2 : b = L
    · subst hb2; exact ⟨_, upd_same⟩
    · rw [upd_ne hb2]; exact r2.c0 b hb
theorem Rel.not_ca0 (r : Rel D ca σ H ms) {L : Addr} (h : H L = none) : L ∉ D.ca0.flatten := fun hm => by
  obtain ⟨o, e⟩ := r.c0 L hm
  by_cases st : D.st = true
  · obtain ⟨o', e'⟩ := r.cell_some st (r.ca0_sub hm)
    rw [h] at e'; cases e'
  · have := r.fr L o e (fun z => absurd z st)
    rw [h] at this; cases this
theorem Rel.at_guard {L : Addr} {o : HO} (r : Rel (D.guard L o) ca σ H ms) (hL : L ∉ D.ca0.flatten) : H L = some o := r.fr L o (by show upd D.H0 L o L = some o; exact upd_same) fun _ => hL
theorem Rel.guard_ca {L : Addr} {o : HO} (r : Rel (D.guard L o) ca σ H ms) (hL : L ∉ D.ca0.flatten) : L ∉ ca.flatten := fun hm => by
  rcases r.ca_split hm with h | h
  · exact hL h
  · have := r.new L h
    have this : upd D.H0 L o L = none := this
    rw [upd_same] at this; cases this
theorem Rel.unguard {L : Addr} {o : HO} (r : Rel (D.guard L o) ca σ H ms) (h0 : D.H0 L = none) (hL : L ∉ D.ca0.flatten) : Rel D ca σ H ms := by
  have hsub : ∀ b, (D.guard L o).H0 b = none → D.H0 b = none := fun b e => by
    have e : upd D.H0 L o b = none := e
    by_cases hb : b = L
    · subst hb; exact h0
    · rw [upd_ne hb] at e; exact e
  refine ⟨r.len, r.cells, r.nd, r.pre, fun b u e hn => r.fr b u ?_ hn, fun b hb => hsub b (r.new b hb), r.slen, fun i x e => ?_, r.sep, fun b hb => ?_, r.oca⟩
  · show upd D.H0 L o b = some u
    rw [upd_ne (fun z => by subst z; rw [h0] at e; cases e)]
    exact e
  · obtain ⟨v, e1, q⟩ := r.slots i x e
    exact ⟨v, e1, SlAt.h0 (D := D.guard L o) (D' := D) rfl (.refl H) (fun p u hp hu _ => ⟨hu, hsub p hp⟩) q⟩
  · obtain ⟨u, e⟩ := r.c0 b hb
    have e : upd D.H0 L o b = some u := e
    rw [upd_ne (fun z => by subst z; exact hL hb)] at e
    exact ⟨u, e⟩
theorem Kp.upd_mut {H : Hp} {L : Addr} {o o' : HO} (h : H L = some o) (mu : Mut (some o)) : Kp H (upd H L o') :=
  ⟨fun b xs e => by rw [upd_ne (fun z => by subst z; rw [h] at e; cases e; exact mu)]; exact e, fun b u z e => by rw [upd_ne (fun y => by subst y; rw [h] at e; cases e; exact mu)]; exact e⟩
theorem Rel.reguard {L : Addr} {o o' : HO} (r : Rel (D.guard L o) ca σ H ms) (hL : L ∉ D.ca0.flatten) (mu : Mut (some o)) : Rel (D.guard L o') ca σ (upd H L o') ms := by
  have hH := r.at_guard hL
  have k : Kp H (upd H L o') := Kp.upd_mut hH mu
  have hc := r.guard_ca hL
  refine ⟨r.len, fun j c as e1 e2 => ?_, r.nd, r.pre, fun b u e hn => ?_, fun b hb => ?_, r.slen, fun i x e => ?_, r.sep, fun b hb => ?_, r.oca⟩
  · exact (r.cells j c as e1 e2).at_ k fun b hb o2 h => by
      rw [upd_ne (fun z => by subst z; exact hc (flat_mem e2 hb))]; exact h
  · have e : upd D.H0 L o' b = some u := e
    by_cases hb : b = L
    · subst hb
      rw [upd_same] at e ⊢
      exact e
    · rw [upd_ne hb] at e ⊢
      exact r.fr b u (by show upd D.H0 L o b = some u; rw [upd_ne hb]; exact e) hn
  · have := r.new b hb
    have this : upd D.H0 L o b = none := this
    show upd D.H0 L o' b = none
    by_cases hbL : b = L
    · subst hbL; rw [upd_same] at this; cases this
    · rw [upd_ne hbL] at this ⊢; exact this
  · obtain ⟨v, e1, q⟩ := r.slots i x e
    refine ⟨v, e1, SlAt.h0 (D := D.guard L o) (D' := D.guard L o') rfl k (fun p u hp hu _ => ?_) q⟩
    have hp : upd D.H0 L o p = none := hp
    have hpL : p ≠ L := fun z => by subst z; rw [upd_same] at hp; cases hp
    rw [upd_ne hpL] at hp
    exact ⟨by rw [upd_ne hpL]; exact hu, by show upd D.H0 L o' p = none; rw [upd_ne hpL]; exact hp⟩
  · show ∃ u, upd D.H0 L o' b = some u
    obtain ⟨u, e⟩ := r.c0 b hb
    have e : upd D.H0 L o b = some u := e
    rw [upd_ne (fun z => by subst z; exact hL hb)] at e ⊢
    exact ⟨u, e⟩
/-- the heap without L -/
def erase (H : Hp) (L : Addr) : Hp := fun b => if b = L then none else H b
theorem erase_same {H : Hp} {L : Addr} : erase H L L = none := by unfold erase; rw [if_pos rfl]
theorem erase_ne {H : Hp} {L b : Addr} (h : b ≠ L) : erase H L b = H b := by unfold erase; rw [if_neg h]
theorem upd_erase {H : Hp} {L : Addr} {o : HO} (h : H L = some o) : upd (erase H L) L o = H := by
  funext b
  by_cases hb : b = L
  · subst hb; rw [upd_same, h]
  · rw [upd_ne hb, erase_ne hb]
theorem Kp.erase {H : Hp} {L : Addr} {o : HO} (h : H L = some o) (mu : Mut (some o)) : Kp H (erase H L) :=
  ⟨fun b xs e => by rw [erase_ne (fun z => by subst z; rw [h] at e; cases e; exact mu)]; exact e, fun b u z e => by rw [erase_ne (fun y => by subst y; rw [h] at e; cases e; exact mu)]; exact e⟩
theorem Rel.ungrow {L : Addr} {o : HO} (r : Rel (D.guard L o) ca σ H ms) (hL : L ∉ D.ca0.flatten) (h0 : D.H0 L = none) (mu : Mut (some o)) : Rel D ca σ (erase H L) ms := by
  have hH := r.at_guard hL
  have k : Kp H (DL.erase H L) := Kp.erase hH mu
  have hc := r.guard_ca hL
  have u := r.unguard h0 hL
  refine ⟨u.len, fun j c as e1 e2 => ?_, u.nd, u.pre, fun b v e hn => ?_, u.new, u.slen, fun i x e => ?_, u.sep, u.c0, u.oca⟩
  · exact (u.cells j c as e1 e2).at_ k fun b hb o2 h => by
      rw [erase_ne (fun z => by subst z; exact hc (flat_mem e2 hb))]; exact h
  · rw [erase_ne (fun z => by subst z; rw [h0] at e; cases e)]
    exact u.fr b v e hn
  · obtain ⟨v, e1, q⟩ := r.slots i x e
    refine ⟨v, e1, SlAt.h0 (D := D.guard L o) (D' := D) rfl k (fun p w hp hw _ => ?_) q⟩
    have hp : upd D.H0 L o p = none := hp
    have hpL : p ≠ L := fun z => by subst z; rw [upd_same] at hp; cases hp
    rw [upd_ne hpL] at hp
    exact ⟨by rw [erase_ne hpL]; exact hw, hp⟩
end
end DL
namespace DL
open PySem PySem.Spec PyProof.Rows L2

/-! ### targets -/
abbrev GM := W → MS → R Unit
abbrev GsM := List W → MS → R Unit
def RdG (D : DC) (sl : List Nat) (g : GM) : TG := fun v σ H Q => ∃ ca ms w, Rel D ca σ H ms ∧ Rp D.K ca H w v ∧ ∃ ms', g w ms = .ok () ms' ∧ ∀ σ' ca' H', σ'.length = σ.length → (∀ i, i ∉ sl → σ'[i]? = σ[i]?) → Ext ca H ca' H' → Rel D ca' σ' H' ms' → Q σ' H'
def RdGs (D : DC) (sl : List Nat) (g : GsM) : TGs := fun vs σ H Q => ∃ ca ms ws, Rel D ca σ H ms ∧ RpAll D.K ca H ws vs ∧ ∃ ms', g ws ms = .ok () ms' ∧ ∀ σ' ca' H', σ'.length = σ.length → (∀ i, i ∉ sl → σ'[i]? = σ[i]?) → Ext ca H ca' H' → Rel D ca' σ' H' ms' → Q σ' H'
/-- what a target does to the slots: those of sl alone -/
def GQ (sl : List Nat) (g : GM) : Prop := ∀ w m m', g w m = .ok () m' → ∀ (i : Nat), i ∉ sl → m'.env[i]? = m.env[i]?
def GsQ (sl : List Nat) (g : GsM) : Prop := ∀ w m m', g w m = .ok () m' → ∀ (i : Nat), i ∉ sl → m'.env[i]? = m.env[i]?
structure DG (D : DC) (X : Cx) (e : Expr) (sl : List Nat) (g : GM) : Prop where
  pg : PG X e (RdG D sl g)
  gq : GQ sl g
structure DGs (D : DC) (X : Cx) (es : List Expr) (sl : List Nat) (n : Nat) (g : GsM) : Prop where
  pg : PGs X es (RdGs D sl g)
  gq : GsQ sl g
  len : ∀ ws m m', g ws m = .ok () m' → ws.length = n
theorem PG.mono {X : Cx} {e : Expr} {t t' : TG} (h : PG X e t) (f : ∀ v σ H Q, t' v σ H Q → t v σ H Q) : PG X e t' := ⟨fun pins s σ H v u Q I r hw => h.run pins s σ H v u Q I r (f v σ H Q hw)⟩
theorem PGs.mono {X : Cx} {e : List Expr} {t t' : TGs} (h : PGs X e t) (f : ∀ v σ H Q, t' v σ H Q → t v σ H Q) : PGs X e t' := ⟨fun pins s σ H v u Q I r hw => h.run pins s σ H v u Q I r (f v σ H Q hw)⟩
theorem Rel.set {D : DC} {ca : CA} {σ : L2.St} {H : Hp} {ms : MS} {w : W} {v : V} (r : Rel D ca σ H ms) (p : Rp D.K ca H w v) (i : Nat) : Rel D ca (σ.set i (some v)) H { ms with env := ms.env.set i (some (.fz w)) } := by
  have nj : ∀ j, Sl.isOwn (ms.env.set i (some (.fz w)))[j]? = true → i ≠ j := fun j e z => by
    subst z
    by_cases hi : i < ms.env.length
    · rw [List.getElem?_set_self hi] at e; cases e
    · rw [List.getElem?_eq_none (by simpa using Nat.le_of_not_lt hi)] at e; cases e
  refine ⟨r.len, r.cells, r.nd, r.pre, r.fr, r.new, by simp [r.slen], fun j x e => ?_, fun j k u hjk e1 e2 e3 e4 => ?_, r.c0, fun j p e1 e2 => ?_⟩
  · by_cases hij : i = j
    · subst hij
      by_cases hi : i < ms.env.length
      · have e : (ms.env.set i (some (.fz w)))[i]? = some (some x) := e
        rw [List.getElem?_set_self hi] at e
        cases e
        exact ⟨v, List.getElem?_set_self (by rw [← r.slen]; exact hi), p⟩
      · have e : (ms.env.set i (some (.fz w)))[i]? = some (some x) := e
        rw [List.getElem?_eq_none (by simpa using Nat.le_of_not_lt hi)] at e
        cases e
    · have e : (ms.env.set i (some (.fz w)))[j]? = some (some x) := e
      rw [List.getElem?_set_ne hij] at e
      rw [List.getElem?_set_ne hij]
      exact r.slots j x e
  · have h1 := nj j e1
    have h2 := nj k e2
    have e1 : Sl.isOwn (ms.env.set i (some (.fz w)))[j]? = true := e1
    have e2 : Sl.isOwn (ms.env.set i (some (.fz w)))[k]? = true := e2
    rw [List.getElem?_set_ne h1] at e1 e3
    rw [List.getElem?_set_ne h2] at e2 e4
    exact r.sep j k u hjk e1 e2 e3 e4
  · have h1 := nj j e1
    have e1 : Sl.isOwn (ms.env.set i (some (.fz w)))[j]? = true := e1
    rw [List.getElem?_set_ne h1] at e1 e2
    exact r.oca j p e1 e2
def setFz (i : Nat) : GM := fun w m => .ok () { m with env := m.env.set i (some (.fz w)) }
def gsNil : GsM := fun ws m => match ws with
  | [] => .ok () m
  | _ => .bad
def gsCons (g : GM) (r : GsM) : GsM := fun ws m => match ws with
  | w :: ws => (g w m).bind fun _ m => r ws m
  | [] => .bad
def gTupW (g : GsM) : GM := fun w m => match w with
  | .tuple ws => g ws m
  | _ => .bad
theorem gsNil_len {ws : List W} {m m' : MS} (h : gsNil ws m = .ok () m') : ws.length = 0 := by
  cases ws with
  | nil => rfl
  | cons => cases h
theorem gsCons_inv {g : GM} {gs : GsM} {ws : List W} {m m' : MS} (e : gsCons g gs ws m = .ok () m') : ∃ w r m1, ws = w :: r ∧ g w m = .ok () m1 ∧ gs r m1 = .ok () m' := by
  cases ws with
  | nil => cases e
  | cons w ws =>
    have e : (g w m).bind (fun _ m => gs ws m) = .ok () m' := e
    cases e1 : g w m with
    | ok u m1 => rw [e1] at e; exact ⟨w, ws, m1, rfl, e1, e⟩
    | err c fs m => rw [e1] at e; cases e
    | bad => rw [e1] at e; cases e
section
variable {D : DC} {X : Cx} {e : Expr} {es : List Expr} {pos : Pos} {sl sl2 : List Nat} {n : Nat} {g : GM} {gs : GsM}
theorem dg_name {i : Nat} {x : Str} (hN : X.N.Nodup) (hi : X.N[i]? = some x) (hx : Loc X.env.scope x) (hf : X.fn x = true ∨ X.env.scope.names.lookup x = some .local := by first | exact .inl rfl | exact .inr rfl | assumption) : DG D X (.Name x pos) [i] (setFz i) :=
  ⟨PG.mono (pg_name hN hi hx hf) fun v σ H Q ⟨ca, ms, w, r, p, ms', e, q⟩ => by
    cases e
    exact q _ ca H (by simp) (fun j hj => List.getElem?_set_ne (by simpa using fun z => hj (by simp [z]))) (.refl _ _) (r.set p i),
  fun w m m' e j hj => by
    cases e
    exact List.getElem?_set_ne (by simpa using fun z => hj (by simp [z]))⟩
theorem dgs_nil : DGs D X [] [] 0 gsNil := ⟨PGs.mono pgs_nil fun vs σ H Q ⟨ca, ms, ws, r, p, ms', e, q⟩ => (by
  cases ws with
  | nil =>
    simp only [RpAll] at p
    cases e
    exact ⟨p, q _ ca H rfl (fun _ _ => rfl) (.refl _ _) r⟩
  | cons => cases e), (fun w m m' e j hj => by
    cases w with
    | nil => cases e; rfl
    | cons => cases e), fun ws m m' e => gsNil_len e⟩
theorem dgs_cons (h1 : DG D X e sl g) (h2 : DGs D X es sl2 n gs) (hs : (assignEach (e :: es) X.env).map (·.2) = assign e X.env :: (assignEach es X.env).map (·.2) := by rfl) : DGs D X (e :: es) (sl ++ sl2) (n + 1) (gsCons g gs) :=
  ⟨PGs.mono (pgs_cons h1.pg h2.pg hs) fun vs σ H Q ⟨ca, ms, ws, r, p, ms', e, q⟩ => by
    obtain ⟨w, ws', m1, rfl, e1, e2⟩ := gsCons_inv e
    simp only [RpAll] at p
    obtain ⟨v, rr, rfl, p1, p2⟩ := p
    exact ⟨v, rr, rfl, ca, ms, w, r, p1, m1, e1, fun σ' ca' H' hl1 hs1 x r' => ⟨ca', m1, ws', r', RpAll.mono x _ _ p2, ms', e2, fun σ2 ca2 H2 hl2 hs2 x2 r2 => q σ2 ca2 H2 (hl2.trans hl1) (fun i hi => (hs2 i (fun z => hi (List.mem_append_right _ z))).trans (hs1 i (fun z => hi (List.mem_append_left _ z)))) (x.trans x2) r2⟩⟩,
  fun w m m' e i hi => by
    obtain ⟨w, ws', m1, rfl, e1, e2⟩ := gsCons_inv e
    exact (h2.gq _ _ _ e2 i (fun z => hi (List.mem_append_right _ z))).trans (h1.gq _ _ _ e1 i (fun z => hi (List.mem_append_left _ z))),
  fun ws m m' e => by
    obtain ⟨w, ws', m1, rfl, e1, e2⟩ := gsCons_inv e
    rw [List.length_cons, h2.len _ _ _ e2]⟩
theorem dg_tup {k : Nat} (hK : D.K = X.K) (hc : X.calm = true) (h : DGs D X es sl n gs) (hn : (assignEach es X.env).length = n := by rfl) (hst : (assignEach es X.env).findIdx? (·.1) = none := by rfl) : DG D X (.Tuple es k pos) sl (gTupW gs) :=
  ⟨PG.mono (pg_tup hc h.pg hn hst) fun v σ H Q ⟨ca, ms, w, r, p, ms', e, q⟩ => (by
    cases w with
    | tuple ws =>
      obtain ⟨a, vs, rfl, f, ra⟩ := p.tup
      exact ⟨a, vs, rfl, by rw [← hK]; exact f.sq, by rw [ra.length]; exact h.len _ _ _ e, ca, ms, ws, r, ra, ms', e, q⟩
    | _ => cases e),
  fun w m m' e i hi => by
    cases w with
    | tuple ws => exact h.gq _ _ _ e i hi
    | _ => cases e⟩
end

/-! ### comprehensions -/
def wipeE (env : List (Option Sl)) : List Nat → List (Option Sl)
  | [] => env
  | v :: vs => (wipeE env vs).set v none
theorem wipeE_length (env : List (Option Sl)) : ∀ vs, (wipeE env vs).length = env.length
  | [] => rfl
  | v :: vs => by unfold wipeE; rw [List.length_set, wipeE_length env vs]
theorem wipeE_some {env : List (Option Sl)} {i : Nat} {x : Sl} : ∀ {vs : List Nat}, (wipeE env vs)[i]? = some (some x) → env[i]? = some (some x) ∧ i ∉ vs
  | [], h => ⟨h, by simp⟩
  | v :: vs, h => by
    unfold wipeE at h
    by_cases hi : v = i
    · subst hi
      by_cases hv : v < (wipeE env vs).length
      · rw [List.getElem?_set_self hv] at h; cases h
      · rw [List.getElem?_eq_none (by simpa using hv)] at h; cases h
    · rw [List.getElem?_set_ne hi] at h
      obtain ⟨h1, h2⟩ := wipeE_some h
      exact ⟨h1, by simp only [List.mem_cons, not_or]; exact ⟨fun e => hi e.symm, h2⟩⟩
theorem wipe_keep {σ : L2.St} {i : Nat} : ∀ {vs : List Nat}, i ∉ vs → (wipe σ vs)[i]? = σ[i]?
  | [], _ => rfl
  | v :: vs, h => by
    simp only [List.mem_cons, not_or] at h
    unfold wipe
    rw [List.getElem?_set_ne (Ne.symm h.1), wipe_keep h.2]
theorem isOwn_some {o : Option (Option Sl)} (h : Sl.isOwn o = true) : ∃ x, o = some (some x) := by
  cases o with
  | none => cases h
  | some o => cases o with
    | none => cases h
    | some x => exact ⟨x, rfl⟩
theorem Rel.wipe {D : DC} {ca : CA} {σ : L2.St} {H : Hp} {ms : MS} (r : Rel D ca σ H ms) (vs : List Nat) : Rel D ca (L2.wipe σ vs) H { ms with env := wipeE ms.env vs } := by
  refine ⟨r.len, r.cells, r.nd, r.pre, r.fr, r.new, by show (wipeE ms.env vs).length = _; rw [wipeE_length, wipe_length, r.slen], fun j x e => ?_, fun j k u hjk e1 e2 e3 e4 => ?_, r.c0, fun j p e1 e2 => ?_⟩
  · obtain ⟨h1, h2⟩ := wipeE_some e
    rw [wipe_keep h2]
    exact r.slots j x h1
  · obtain ⟨x, hx⟩ := isOwn_some e1
    obtain ⟨y, hy⟩ := isOwn_some e2
    obtain ⟨h1, h2⟩ := wipeE_some hx
    obtain ⟨h3, h4⟩ := wipeE_some hy
    rw [wipe_keep h2] at e3
    rw [wipe_keep h4] at e4
    have e1 : Sl.isOwn (wipeE ms.env vs)[j]? = true := e1
    have e2 : Sl.isOwn (wipeE ms.env vs)[k]? = true := e2
    rw [hx, ← h1] at e1
    rw [hy, ← h3] at e2
    exact r.sep j k u hjk e1 e2 e3 e4
  · obtain ⟨x, hx⟩ := isOwn_some e1
    obtain ⟨h1, h2⟩ := wipeE_some hx
    rw [wipe_keep h2] at e2
    have e1 : Sl.isOwn (wipeE ms.env vs)[j]? = true := e1
    rw [hx, ← h1] at e1
    exact r.oca j p e1 e2
/-- the slots as they were, the heap and the cells as they are now -/
theorem Rel.back {D : DC} {ca ca' : CA} {σ σ' : L2.St} {H H' : Hp} {ms ms' : MS} (r : Rel D ca σ H ms) (r' : Rel D ca' σ' H' ms') (x : Ext ca H ca' H') (own : ∀ (i : Nat) (y : Sl), Sl.isOwn ms.env[i]? = true → ms.env[i]? = some (some y) → ms'.env[i]? = some (some y) ∧ σ'[i]? = σ[i]?) : Rel D ca' σ H' { env := ms.env, cells := ms'.cells } := by
  refine ⟨r'.len, r'.cells, r'.nd, r'.pre, r'.fr, r'.new, r.slen, fun j y e => ?_, r.sep, r.c0, fun j p e1 e2 => ?_⟩
  cases y with
  | fz w =>
    obtain ⟨v, e1, p⟩ := r.slots j _ e
    exact ⟨v, e1, Rp.mono x _ _ p⟩
  | ow xs =>
    have e : ms.env[j]? = some (some (.ow xs)) := e
    obtain ⟨h1, h2⟩ := own j _ (by rw [e]; rfl) e
    obtain ⟨v, e1, p⟩ := r'.slots j _ h1
    rw [h2] at e1
    exact ⟨v, e1, p⟩
  | od xs =>
    have e : ms.env[j]? = some (some (.od xs)) := e
    obtain ⟨h1, h2⟩ := own j _ (by rw [e]; rfl) e
    obtain ⟨v, e1, p⟩ := r'.slots j _ h1
    rw [h2] at e1
    exact ⟨v, e1, p⟩
  · obtain ⟨y, hy⟩ := isOwn_some e1
    have hy : ms.env[j]? = some (some y) := hy
    obtain ⟨h1, h2⟩ := own j y e1 hy
    exact r'.oca j p (by rw [h1, ← hy]; exact e1) (by rw [h2]; exact e2)
theorem wipe_at {σ : L2.St} {i : Nat} : ∀ {vs : List Nat}, i ∈ vs → (L2.wipe σ vs)[i]? = if i < σ.length then some none else none
  | v :: vs, h => by
    unfold L2.wipe
    by_cases hv : v = i
    · subst hv
      by_cases hi : v < σ.length
      · rw [List.getElem?_set_self (by rw [wipe_length]; exact hi), if_pos hi]
      · rw [List.getElem?_eq_none (by rw [List.length_set, wipe_length]; omega), if_neg hi]
    · rw [List.getElem?_set_ne hv]
      exact wipe_at ((List.mem_cons.mp h).resolve_left fun z => hv z.symm)
theorem wipe_eq {σ σ' : L2.St} {sl vs : List Nat} (hl : σ'.length = σ.length) (hs : ∀ i, i ∉ sl → σ'[i]? = σ[i]?) (hv : ∀ i ∈ sl, i ∈ vs) : L2.wipe σ' vs = L2.wipe σ vs := by
  refine List.ext_getElem? fun i => ?_
  by_cases h : i ∈ vs
  · rw [wipe_at h, wipe_at h, hl]
  · rw [wipe_keep h, wipe_keep h]
    exact hs i fun z => h (hv i z)
theorem wipe_wipe (σ : L2.St) (vs : List Nat) : L2.wipe (L2.wipe σ vs) vs = L2.wipe σ vs := by
  refine List.ext_getElem? fun i => ?_
  by_cases h : i ∈ vs
  · rw [wipe_at h, wipe_at h, wipe_length]
  · rw [wipe_keep h]
/-- the slots stay -/
def EQt (m : EM) : Prop := ∀ s w s', m s = .ok w s' → s'.env = s.env
def TQt (m : TM) : Prop := ∀ s w s', m s = .ok w s' → s'.env = s.env
def compGo (g : GM) (t : TM) (el : EM) (env0 : List (Option Sl)) : List W → List Cell → Option (List W × List Cell)
  | [], cs => some ([], cs)
  | x :: xs, cs => match g x ⟨env0, cs⟩ with
    | .ok _ m2 => match t m2 with
      | .ok true m3 => match el m3 with
        | .ok y m4 => match compGo g t el env0 xs m4.cells with
          | some (ys, cs') => some (y :: ys, cs')
          | none => none
        | _ => none
      | .ok false m3 => compGo g t el env0 xs m3.cells
      | _ => none
    | _ => none
def ownFree (env : List (Option Sl)) (own : List Nat) : Bool := own.all fun i => !Sl.isOwn env[i]?
def fComp (it : LM) (g : GM) (t : TM) (el : EM) (own : List Nat) : LM := fun m => (it m).bind fun xs m => if ownFree m.env own = false then .bad else match compGo g t el (wipeE m.env own) xs m.cells with
  | some (ys, cs) => if szOk ys.length = true then .ok ys { m with cells := cs } else .bad
  | none => .bad
def tYesM : TM := fun m => .ok true m
theorem compGo_len {g : GM} {t : TM} {el : EM} {env0 : List (Option Sl)} : ∀ {xs : List W} {cs : List Cell} {ys : List W} {cs' : List Cell}, compGo g t el env0 xs cs = some (ys, cs') → ys.length ≤ xs.length
  | [], cs, ys, cs', h => by cases h; exact Nat.le_refl _
  | x :: xs, cs, ys, cs', h => by
    unfold compGo at h
    split at h
    · split at h
      · split at h
        · split at h
          · rename_i e
            cases h
            exact Nat.succ_le_succ (compGo_len e)
          · cases h
        · cases h
      · exact Nat.le_succ_of_le (compGo_len h)
      · cases h
    · cases h
end DL
namespace DL
open PySem PySem.Spec PyProof.Rows L2

def W0 : WX := fun _ _ _ _ => False
def gAny_ (D0 : DC) (sl : List Nat) (g : GM) : TG := fun v σ H Q => ∃ D : DC, D.K = D0.K ∧ D.st = D0.st ∧ RdG D sl g v σ H Q
def tAny_ (D0 : DC) (t : TM) : TT := fun σ H Q => ∃ D : DC, D.K = D0.K ∧ D.st = D0.st ∧ RdT D W0 t σ H Q
def eAny_ (D0 : DC) (e : EM) : TE := fun σ H Q => ∃ D : DC, D.K = D0.K ∧ D.st = D0.st ∧ RdE D W0 e σ H Q
theorem RdT.okk {D : DC} {σ : L2.St} {ca : CA} {H : Hp} {ms m1 : MS} {t : TM} {b : Bool} {Q : Bool → Hp → Prop} (r : Rel D ca σ H ms) (e : t ms = .ok b m1) (q : ∀ ca' H', Ext ca H ca' H' → Rel D ca' σ H' m1 → Q b H') : RdT D W0 t σ H Q :=
  ⟨ca, ms, r, by rw [e]; exact q⟩
theorem RdE.okk {D : DC} {σ : L2.St} {ca : CA} {H : Hp} {ms m1 : MS} {t : EM} {w : W} {Q : VK} (r : Rel D ca σ H ms) (e : t ms = .ok w m1) (q : ∀ v ca' H', Ext ca H ca' H' → Rel D ca' σ H' m1 → Rp D.K ca' H' w v → Q v H') : RdE D W0 t σ H Q :=
  ⟨ca, ms, r, by rw [e]; exact q⟩
theorem Mut_lst {vs : List V} : Mut (some (.lst vs)) := trivial
/-- the state behind a turn, put back -/
theorem Rel.turned {D : DC} {ca ca' : CA} {σ σ' : L2.St} {H H' : Hp} {env0 : List (Option Sl)} {cs : List Cell} {ms' : MS} {sl vs : List Nat} (r : Rel D ca (L2.wipe σ vs) H ⟨env0, cs⟩) (r' : Rel D ca' σ' H' ms') (x : Ext ca H ca' H')
    (hs : ∀ i, i ∉ sl → σ'[i]? = (L2.wipe σ vs)[i]?) (he : ∀ i, i ∉ sl → ms'.env[i]? = env0[i]?) (hv : ∀ i ∈ sl, i ∈ vs) (hw : ∀ i ∈ vs, ∀ y, env0[i]? ≠ some (some y)) : Rel D ca' (L2.wipe σ vs) H' ⟨env0, ms'.cells⟩ :=
  r.back r' x fun i y e1 e2 => by
    have hi : i ∉ sl := fun z => hw i (hv i z) y e2
    exact ⟨(he i hi).trans e2, hs i hi⟩
theorem wipeE_at {env : List (Option Sl)} {vs : List Nat} : ∀ i ∈ vs, ∀ y, (wipeE env vs)[i]? ≠ some (some y) := fun i hi y e => (wipeE_some e).2 hi
theorem wipeE_keep {env : List (Option Sl)} {i : Nat} : ∀ {vs : List Nat}, i ∉ vs → (wipeE env vs)[i]? = env[i]?
  | [], _ => rfl
  | v :: vs, h => by
    simp only [List.mem_cons, not_or] at h
    unfold wipeE
    rw [List.getElem?_set_ne (Ne.symm h.1), wipeE_keep h.2]
/-- what is reached turn by turn -/
structure CIn (D : DC) (ca1 : CA) (σ : L2.St) (H1 : Hp) (L : Addr) (env0 : List (Option Sl)) (vs : List Nat) (g : GM) (t : TM) (el : EM) (xs ys : List W) (cs' : List Cell) (i : Nat) (H : Hp) : Prop where
  mk ::
  ex : ∃ (ca : CA) (acc : List V) (cs : List Cell) (dn rs : List W), Kp H1 H ∧ ca1 <+: ca ∧ Rel (D.guard L (.lst acc)) ca (L2.wipe σ vs) H ⟨env0, cs⟩ ∧ RpAll D.K ca H dn acc ∧ compGo g t el env0 (xs.drop i) cs = some (rs, cs') ∧ ys = dn ++ rs
theorem comp_walk {D : DC} {ca1 : CA} {σ : L2.St} {H1 : Hp} {L : Addr} {env0 : List (Option Sl)} {sl vs : List Nat} {g : GM} {t : TM} {el : EM} {xs ys : List W} {cs cs' : List Cell} {J : It} {Qd : Hp → Prop}
    (hgq : GQ sl g) (htq : TQt t) (heq : EQt el) (hv : ∀ i ∈ sl, i ∈ vs) (hw : ∀ i ∈ vs, ∀ y, env0[i]? ≠ some (some y)) (hL : H1 L = none) (r1 : Rel D ca1 (L2.wipe σ vs) H1 ⟨env0, cs⟩) (dw : DWalk D.K J ca1 H1 xs)
    (hc : compGo g t el env0 xs cs = some (ys, cs')) (hz : ys.length ≤ sizeLine) (hq : ∀ H acc ca, Kp H1 H → ca1 <+: ca → Rel (D.guard L (.lst acc)) ca (L2.wipe σ vs) H ⟨env0, cs'⟩ → RpAll D.K ca H ys acc → Qd H) :
    ∃ W : Nat → Nat → Hp → Prop, (∃ m, W 0 m (upd H1 L (.lst []))) ∧ ∀ i m H, W i m H →
      (J.stop i H ∧ Qd H) ∨ (J.go i H ∧ ∃ Nx : Hp → Prop, (∀ H', Nx H' → ∃ m', m' < m ∧ W (i + 1) m' H') ∧ ∀ x H', J.yld i H x H' → gAny_ D sl g x (L2.wipe σ vs) H' fun σ2 H2 => L2.wipe σ2 vs = L2.wipe σ vs ∧ tAny_ D t σ2 H2 fun b H3 =>
        if b = true then eAny_ D el σ2 H3 fun y H4 => ∃ acc, H4 L = some (.lst acc) ∧ acc.length < sizeLine ∧ Nx (upd H4 L (.lst (acc ++ [y]))) else Nx H3) := by
  have hL0 := r1.not_ca0 hL
  refine ⟨fun i m H => m = xs.length - i ∧ i ≤ xs.length ∧ CIn D ca1 σ H1 L env0 vs g t el xs ys cs' i H, ⟨xs.length, by simp, Nat.zero_le _, ⟨ca1, [], cs, [], ys, .upd_new hL, List.prefix_refl _, r1.guard hL, by simp only [RpAll], by simpa using hc, rfl⟩⟩, ?_⟩
  rintro i m H ⟨rfl, hi, ⟨ca, acc, ct, dn, rs, kp, px, r, pa, cg, ey⟩⟩
  by_cases hlt : i < xs.length
  · refine .inr ⟨dw.goes i H hlt kp, fun H' => CIn D ca1 σ H1 L env0 vs g t el xs ys cs' (i + 1) H', fun H' p' => ⟨xs.length - (i + 1), by omega, rfl, hlt, p'⟩, fun x H' hy => ?_⟩
    have hx : xs[i]? = some xs[i] := by simp [hlt]
    obtain ⟨sm, px1⟩ := dw.yields i H x H' xs[i] kp hx hy
    have hd : xs.drop i = xs[i] :: xs.drop (i + 1) := List.drop_eq_getElem_cons hlt
    have r2 := r.grow sm
    have pa2 : RpAll D.K ca H' dn acc := RpAll.mono (.of_same sm) _ _ pa
    have kp2 : Kp H1 H' := kp.trans (.of_same sm)
    have px2 : Rp D.K ca H' xs[i] x := Rp.mono ⟨.refl _, px⟩ _ _ px1
    rw [hd] at cg
    unfold compGo at cg
    split at cg
    · rename_i u m2 eg
      refine ⟨D.guard L (.lst acc), rfl, rfl, ca, _, xs[i], r2, px2, m2, eg, fun σ2 ca2 H2 hl2 hs2 x2 r3 => ⟨(wipe_eq hl2 hs2 hv).trans (wipe_wipe σ vs), ?_⟩⟩
      have pa3 : RpAll D.K ca2 H2 dn acc := RpAll.mono x2 _ _ pa2
      split at cg
      · rename_i m3 et
        refine ⟨D.guard L (.lst acc), rfl, rfl, RdT.okk r3 et fun ca3 H3 x3 r4 => ?_⟩
        rw [if_pos rfl]
        split at cg
        · rename_i y m4 ee
          refine ⟨D.guard L (.lst acc), rfl, rfl, RdE.okk r4 ee fun v ca4 H4 x4 r5 p5 => ?_⟩
          have pa5 : RpAll D.K ca4 H4 dn acc := RpAll.mono (x3.trans x4) _ _ pa3
          split at cg
          · rename_i ys2 cs2 ec
            cases cg
            have hlen : acc.length < sizeLine := by
              have : acc.length = dn.length := pa5.length
              rw [this]
              rw [ey] at hz
              simp only [List.length_append, List.length_cons] at hz
              omega
            refine ⟨acc, r5.at_guard hL0, hlen, ?_⟩
            have hb : Rel (D.guard L (.lst acc)) ca4 (L2.wipe σ vs) H4 ⟨env0, m4.cells⟩ := r2.turned r5 (x2.trans (x3.trans x4)) hs2 (fun i hi => by rw [heq _ _ _ ee, htq _ _ _ et]; exact hgq _ _ _ eg i hi) hv hw
            have x5 : Kp H4 (upd H4 L (.lst (acc ++ [v]))) := Kp.upd_mut (r5.at_guard hL0) Mut_lst
            exact ⟨ca4, acc ++ [v], m4.cells, dn ++ [y], ys2, kp2.trans ((x2.trans (x3.trans x4)).kp.trans x5), px.trans (x2.trans (x3.trans x4)).pre, hb.reguard hL0 Mut_lst, RpAll.mono ⟨x5, List.prefix_refl _⟩ _ _ (pa5.append (.one p5)), ec, by rw [ey]; simp⟩
          · cases cg
        · cases cg
      · rename_i m3 et
        refine ⟨D.guard L (.lst acc), rfl, rfl, RdT.okk r3 et fun ca3 H3 x3 r4 => ?_⟩
        rw [if_neg (by decide)]
        have hb : Rel (D.guard L (.lst acc)) ca3 (L2.wipe σ vs) H3 ⟨env0, m3.cells⟩ := r2.turned r4 (x2.trans x3) hs2 (fun i hi => by rw [htq _ _ _ et]; exact hgq _ _ _ eg i hi) hv hw
        exact ⟨ca3, acc, m3.cells, dn, rs, kp2.trans (x2.trans x3).kp, px.trans (x2.trans x3).pre, hb, RpAll.mono x3 _ _ pa3, cg, ey⟩
      · cases cg
    · cases cg
  · have e : i = xs.length := by omega
    subst e
    rw [List.drop_length] at cg
    unfold compGo at cg
    cases cg
    rw [List.append_nil] at ey
    subst ey
    exact .inl ⟨dw.stops H kp, hq H acc ca kp px r pa⟩
theorem RdI.bind {D : DC} {Wx : WX} {σ : L2.St} {ca : CA} {H : Hp} {ms : MS} {ma : LM} {β : Type} {f : List W → MS → R β} {P : β → MS → Prop} {Q : It → Hp → Prop} (r : Rel D ca σ H ms) (h : Po D Wx σ ca H ((ma ms).bind f) P)
    (q : ∀ ws J ms1 ca1 H1, Ext ca H ca1 H1 → Rel D ca1 σ H1 ms1 → DWalk D.K J ca1 H1 ws → Po D Wx σ ca H (f ws ms1) P → Q J H1) : RdI D Wx ma σ H Q := by
  refine ⟨ca, ms, r, ?_⟩
  cases e : ma ms with
  | ok w ms1 =>
    rw [e] at h
    exact fun J ca1 H1 x1 r1 p1 => q w J ms1 ca1 H1 x1 r1 p1 h
  | err c fs m =>
    rw [e] at h
    exact h
  | bad =>
    rw [e] at h
    exact h
theorem ownFree_at {env : List (Option Sl)} {own : List Nat} (h : ¬ ownFree env own = false) : ∀ i ∈ own, Sl.isOwn env[i]? = false := fun i hi => by
  unfold ownFree at h
  rw [Bool.not_eq_false, List.all_eq_true] at h
  simpa using h i hi
theorem comp_of {D : DC} {Wx : WX} {it : LM} {g : GM} {t : TM} {el : EM} {sl own : List Nat} {σ : L2.St} {H : Hp} {Q : VK} (hgq : GQ sl g) (htq : TQt t) (heq : EQt el) (hv : ∀ i ∈ sl, i ∈ own) (h : RdF D Wx (fComp it g t el own) σ H Q) :
    tLc (RdI D Wx it) (gAny_ D sl g) (tAny_ D t) (eAny_ D el) own σ H Q := by
  obtain ⟨ca, ms, r, h⟩ := h
  refine RdI.bind r h fun ws J ms1 ca1 H1 x1 r1 dw h1 => fun L hL => ?_
  by_cases hof : ownFree ms1.env own = false
  · rw [if_pos hof] at h1; exact h1.elim
  rw [if_neg hof] at h1
  split at h1
  · rename_i ys cs' ec
    by_cases hz : szOk ys.length = true
    · rw [if_pos hz] at h1
      have rw1 := r1.wipe own
      refine comp_walk hgq htq heq hv wipeE_at hL rw1 dw ec (szOk_le hz) fun H2 acc ca2 kp px r2 pa => ?_
      have hL0 := r1.not_ca0 hL
      have h0 := r1.h0_none hL
      have r3 := r2.ungrow hL0 h0 Mut_lst
      have ke : Kp H2 (erase H2 L) := .erase (r2.at_guard hL0) Mut_lst
      have xx : Ext ca1 H1 ca2 (erase H2 L) := ⟨kp.trans ke, px⟩
      have r4 : Rel D ca2 σ (erase H2 L) ⟨ms1.env, cs'⟩ := r1.back r3 xx fun i y e1 e2 => by
        have hi : i ∉ own := fun z => by rw [ownFree_at hof i z] at e1; cases e1
        refine ⟨?_, wipe_keep hi⟩
        show (wipeE ms1.env own)[i]? = _
        rw [← e2]
        exact wipeE_keep hi
      have := h1 L acc ca2 (erase H2 L) (x1.trans xx) r4 erase_same (RpAll.mono ⟨ke, List.prefix_refl _⟩ _ _ pa)
      rw [upd_erase (r2.at_guard hL0)] at this
      exact this
    · rw [if_neg hz] at h1; exact h1.elim
  · exact h1.elim
section
variable {D : DC} {Wx : WX} {X : Cx} {elt tg iter : Expr} {ifs : List Expr} {scope : Scope} {own : List (Str × Nat)} {sl : List Nat} {pos : Pos} {it : LM} {g : GM} {t : TM} {el : EM}
/-- what is inside of a comprehension's block -/
def Blks (X : Cx) (scope : Scope) (P : Cx → Prop) : Prop := ∀ (s : Shared) (H : Hp) (C : Addr) (cl : List (Str × Addr)) (fp : List Addr), P (X.blk s H scope (compEnvC scope cl C X.env) fp)
theorem df_comp (hK : D.K = X.K) (hc : X.calm = true) (hN : X.N.Nodup) (hi : DI D Wx X tg iter it) (ok : BlkOk X.N X.env.scope scope own) (hg : Blks X scope fun Y => ∀ D' : DC, D'.K = X.K → D'.st = D.st → DG D' Y tg sl g)
    (ht : Blks X scope fun Y => ∀ D' : DC, D'.K = X.K → D'.st = D.st → PTs Y ifs (RdT D' W0 t)) (he : Blks X scope fun Y => ∀ D' : DC, D'.K = X.K → D'.st = D.st → DE D' W0 Y elt el) (htq : TQt t) (heq : EQt el) (hv : ∀ i ∈ sl, i ∈ own.map (·.2)) (hs : ∀ x, foldedSetIterable iter X.env x = pure x := by intro _; rfl) :
    DF D Wx X (.ListComp elt [⟨tg, iter, ifs, 0⟩] scope pos) (fComp it g t el (own.map (·.2))) :=
  PE.mono (pe_lc hc hN hi ok (g := gAny_ D sl g) (tt := tAny_ D t) (te := eAny_ D el)
    (fun s H C cl fp => ⟨fun pins s' σ H' v u Q I r ⟨D', hD, hS, h⟩ => (hg s H C cl fp D' (hD.trans hK) hS).pg.run pins s' σ H' v u Q I r h⟩)
    (fun s H C cl fp => ⟨fun pins s' σ H' Q I ⟨D', hD, hS, h⟩ => (ht s H C cl fp D' (hD.trans hK) hS).run pins s' σ H' Q I h⟩)
    (fun s H C cl fp => ⟨fun pins s' σ H' Q I ⟨D', hD, hS, h⟩ => (he s H C cl fp D' (hD.trans hK) hS).run pins s' σ H' Q I h⟩) hs) fun σ H Q h => comp_of (hg X.s_0 X.H_0 0 [] [] D hK rfl).gq htq heq hv h
end
end DL
namespace DL
open PySem PySem.Spec PyProof.Rows L2

/-! ### what a def's own things go through -/
theorem env_own {env : List (Option Sl)} {i : Nat} {y : Sl} (h : env[i]? = some (some y)) : i < env.length := by
  rcases Nat.lt_or_ge i env.length with h1 | h1
  · exact h1
  · rw [List.getElem?_eq_none h1] at h; cases h
section
variable {D : DC} {ca : CA} {σ : L2.St} {H : Hp} {ms : MS}
theorem Rel.not_ca (r : Rel D ca σ H ms) {L : Addr} (h : H L = none) : L ∉ ca.flatten := fun hm => by
  by_cases st : D.st = true
  · obtain ⟨o', e'⟩ := r.cell_some st hm
    rw [h] at e'; cases e'
  · have hl := r.len
    rw [if_neg st] at hl
    rw [hl.2] at hm
    exact r.not_ca0 h hm
theorem SlAt.own {D : DC} {v : V} {y : Sl} (h : SlAt D ca H v y) (o : Sl.isOwn (some (some y)) = true) : ∃ p, v = .ref p ∧ D.H0 p = none ∧ OwnAt D.K ca H p y := by
  cases y with
  | fz w => cases o
  | ow xs => exact h
  | od xs => exact h
theorem SlAt.of_own {D : DC} {p : Addr} {y : Sl} (h0 : D.H0 p = none) (h : OwnAt D.K ca H p y) : SlAt D ca H (.ref p) y := by
  cases y with
  | fz w => exact h.elim
  | ow xs => exact ⟨p, rfl, h0, h⟩
  | od xs => exact ⟨p, rfl, h0, h⟩
theorem OwnAt.mut {K : PySem.W.Frag} {p : Addr} {y : Sl} (h : OwnAt K ca H p y) : ∃ o, H p = some o ∧ Mut (some o) := by
  cases y with
  | fz w => exact h.elim
  | ow xs => obtain ⟨vs, h, _⟩ := h; exact ⟨_, h, trivial⟩
  | od xs => obtain ⟨vs, h, _⟩ := h; exact ⟨_, h, trivial⟩
/-- an own thing is changed -/
theorem Rel.own_set {i : Nat} {p : Addr} {x y : Sl} {o : HO} (r : Rel D ca σ H ms) (hi : ms.env[i]? = some (some x)) (ho : Sl.isOwn (some (some x)) = true) (hσ : σ[i]? = some (some (.ref p))) (hy : OwnAt D.K ca (upd H p o) p y) (hyo : Sl.isOwn (some (some y)) = true) :
    Rel D ca σ (upd H p o) { ms with env := ms.env.set i (some y) } := by
  have hlt := env_own hi
  obtain ⟨v, e1, sl⟩ := r.slots i x hi
  rw [hσ] at e1
  cases e1
  obtain ⟨p', ep, h0, oa⟩ := sl.own ho
  cases ep
  obtain ⟨u, hu, mu⟩ := oa.mut
  have kp : Kp H (upd H p o) := Kp.upd_mut hu mu
  have hca : p ∉ ca.flatten := r.oca i p (by rw [hi]; exact ho) hσ
  have own' : ∀ (j : Nat), Sl.isOwn (ms.env.set i (some y))[j]? = true → Sl.isOwn ms.env[j]? = true := fun j e => by
    by_cases hij : i = j
    · subst hij; rw [hi]; exact ho
    · rw [List.getElem?_set_ne hij] at e; exact e
  refine ⟨r.len, fun k c as e1 e2 => ?_, r.nd, r.pre, fun b q hb hn => ?_, r.new, by simp [r.slen], fun j z e => ?_, fun j k u hjk e1 e2 e3 e4 => ?_, r.c0, fun j q e1 e2 => r.oca j q (own' j e1) e2⟩
  · exact (r.cells k c as e1 e2).at_ kp fun b hb o2 h => by
      rw [upd_ne (fun z => by subst z; exact hca (flat_mem e2 hb))]; exact h
  · rw [upd_ne (fun z => by subst z; rw [h0] at hb; cases hb)]
    exact r.fr b q hb hn
  · have e : (ms.env.set i (some y))[j]? = some (some z) := e
    by_cases hij : i = j
    · subst hij
      rw [List.getElem?_set_self hlt] at e
      cases e
      exact ⟨.ref p, hσ, .of_own h0 hy⟩
    · rw [List.getElem?_set_ne hij] at e
      obtain ⟨v, e1, q⟩ := r.slots j z e
      refine ⟨v, e1, ?_⟩
      cases hz : Sl.isOwn (some (some z)) with
      | false =>
        cases z with
        | fz w => exact Rp.mono ⟨kp, List.prefix_refl _⟩ _ _ q
        | ow xs => cases hz
        | od xs => cases hz
      | true =>
        obtain ⟨p2, ep, h2, oa2⟩ := q.own hz
        subst ep
        have hne : p2 ≠ p := fun z2 => by
          subst z2
          exact r.sep i j _ hij (by rw [hi]; exact ho) (by rw [e]; exact hz) hσ e1
        refine .of_own h2 ?_
        cases z with
        | fz w => cases hz
        | ow xs => obtain ⟨vs, a, b⟩ := oa2; exact ⟨vs, by rw [upd_ne hne]; exact a, RpAll.mono ⟨kp, List.prefix_refl _⟩ _ _ b⟩
        | od xs => obtain ⟨vs, a, b⟩ := oa2; exact ⟨vs, by rw [upd_ne hne]; exact a, RpKv.mono ⟨kp, List.prefix_refl _⟩ _ _ b⟩
  · exact r.sep j k u hjk (own' j e1) (own' k e2) e3 e4
/-- a new own thing -/
theorem Rel.own_new {i : Nat} {p : Addr} {y : Sl} {o : HO} (r : Rel D ca σ H ms) (np : H p = none) (hy : OwnAt D.K ca (upd H p o) p y) (hyo : Sl.isOwn (some (some y)) = true) :
    Rel D ca (σ.set i (some (V.ref p))) (upd H p o) { ms with env := ms.env.set i (some y) } := by
  have g : Same H (upd H p o) := Same.upd_new np
  have r2 := r.grow g
  have h0 := r.h0_none np
  have hca := r.not_ca np
  have hl : ms.env.length = σ.length := r.slen
  have ne : ∀ (j : Nat) (q : Addr), Sl.isOwn ms.env[j]? = true → σ[j]? = some (some (.ref q)) → q ≠ p := fun j q e1 e2 z => by
    subst z
    obtain ⟨x, hx⟩ := isOwn_some e1
    rw [hx] at e1
    obtain ⟨v, e3, sl⟩ := r.slots j x hx
    rw [e2] at e3
    cases e3
    obtain ⟨p', ep, _, oa⟩ := sl.own e1
    cases ep
    obtain ⟨u, hu, _⟩ := oa.mut
    rw [np] at hu; cases hu
  have isref : ∀ (j : Nat) (v : V), Sl.isOwn ms.env[j]? = true → σ[j]? = some (some v) → ∃ q, v = .ref q := fun j v e1 e2 => by
    obtain ⟨x, hx⟩ := isOwn_some e1
    rw [hx] at e1
    obtain ⟨v', e3, sl⟩ := r.slots j x hx
    rw [e2] at e3
    cases e3
    obtain ⟨p', ep, _, oa⟩ := sl.own e1
    exact ⟨p', ep⟩
  refine ⟨r2.len, r2.cells, r2.nd, r2.pre, r2.fr, r2.new, by simp [r.slen], fun j z e => ?_, fun j k u hjk e1 e2 e3 e4 => ?_, r2.c0, fun j q e1 e2 => ?_⟩
  · have e : (ms.env.set i (some y))[j]? = some (some z) := e
    by_cases hij : i = j
    · subst hij
      by_cases hlt : i < ms.env.length
      · rw [List.getElem?_set_self hlt] at e
        cases e
        exact ⟨.ref p, List.getElem?_set_self (by rw [← hl]; exact hlt), .of_own h0 hy⟩
      · rw [List.getElem?_eq_none (by simpa using hlt)] at e; cases e
    · rw [List.getElem?_set_ne hij] at e
      rw [List.getElem?_set_ne hij]
      exact r2.slots j z e
  · have e1 : Sl.isOwn (ms.env.set i (some y))[j]? = true := e1
    have e2 : Sl.isOwn (ms.env.set i (some y))[k]? = true := e2
    by_cases hij : i = j
    · subst hij
      rw [List.getElem?_set_ne hjk] at e2 e4
      have hlt : i < σ.length := by
        rcases Nat.lt_or_ge i σ.length with h | h
        · exact h
        · rw [List.getElem?_eq_none (by simpa using h)] at e3; cases e3
      rw [List.getElem?_set_self hlt] at e3
      cases e3
      exact ne k p e2 e4 rfl
    · rw [List.getElem?_set_ne hij] at e1 e3
      by_cases hik : i = k
      · subst hik
        have hlt : i < σ.length := by
          rcases Nat.lt_or_ge i σ.length with h | h
          · exact h
          · rw [List.getElem?_eq_none (by simpa using h)] at e4; cases e4
        rw [List.getElem?_set_self hlt] at e4
        cases e4
        exact ne j p e1 e3 rfl
      · rw [List.getElem?_set_ne hik] at e2 e4
        exact r.sep j k u hjk e1 e2 e3 e4
  · have e1 : Sl.isOwn (ms.env.set i (some y))[j]? = true := e1
    by_cases hij : i = j
    · subst hij
      have hlt : i < σ.length := by
        rcases Nat.lt_or_ge i σ.length with h | h
        · exact h
        · rw [List.getElem?_eq_none (by simpa using h)] at e2; cases e2
      rw [List.getElem?_set_self hlt] at e2
      cases e2
      exact hca
    · rw [List.getElem?_set_ne hij] at e1 e2
      exact r.oca j q e1 e2
def frW : Sl → W
  | .fz w => w
  | .ow xs => .list xs
  | .od kvs => .dict kvs
/-- an own thing is frozen -/
theorem Rel.freeze {i : Nat} {p : Addr} {x : Sl} {u : HO} (od : Obj) (r : Rel D ca σ H ms) (hi : ms.env[i]? = some (some x)) (ho : Sl.isOwn (some (some x)) = true) (hσ : σ[i]? = some (some (.ref p))) (hu : H p = some u) :
    Rel D ca σ (upd H p (.frz od u)) { ms with env := ms.env.set i (some (.fz (frW x))) } := by
  have hlt := env_own hi
  obtain ⟨v, e1, sl⟩ := r.slots i x hi
  rw [hσ] at e1
  cases e1
  obtain ⟨p', ep, h0, oa⟩ := sl.own ho
  cases ep
  obtain ⟨u', hu', mu⟩ := oa.mut
  rw [hu] at hu'
  cases hu'
  have kp : Kp H (upd H p (.frz od u)) := Kp.upd_mut hu mu
  have hca : p ∉ ca.flatten := r.oca i p (by rw [hi]; exact ho) hσ
  have own' : ∀ (j : Nat), Sl.isOwn (ms.env.set i (some (.fz (frW x))))[j]? = true → i ≠ j ∧ Sl.isOwn ms.env[j]? = true := fun j e => by
    by_cases hij : i = j
    · subst hij; rw [List.getElem?_set_self hlt] at e; cases e
    · rw [List.getElem?_set_ne hij] at e; exact ⟨hij, e⟩
  refine ⟨r.len, fun k c as e1 e2 => ?_, r.nd, r.pre, fun b q hb hn => ?_, r.new, by simp [r.slen], fun j z e => ?_, fun j k u hjk e1 e2 e3 e4 => ?_, r.c0, fun j q e1 e2 => r.oca j q (own' j e1).2 e2⟩
  · exact (r.cells k c as e1 e2).at_ kp fun b hb o2 h => by
      rw [upd_ne (fun z => by subst z; exact hca (flat_mem e2 hb))]; exact h
  · rw [upd_ne (fun z => by subst z; rw [h0] at hb; cases hb)]
    exact r.fr b q hb hn
  · have e : (ms.env.set i (some (.fz (frW x))))[j]? = some (some z) := e
    by_cases hij : i = j
    · subst hij
      rw [List.getElem?_set_self hlt] at e
      cases e
      refine ⟨.ref p, hσ, ?_⟩
      cases x with
      | fz w => cases ho
      | ow xs =>
        obtain ⟨vs, a, b⟩ := oa
        rw [hu] at a
        cases a
        simp only [SlAt, frW, Rp]
        exact ⟨p, vs, rfl, .inl ⟨od, upd_same⟩, RpAll.mono ⟨kp, List.prefix_refl _⟩ _ _ b⟩
      | od xs =>
        obtain ⟨vs, a, b⟩ := oa
        rw [hu] at a
        cases a
        simp only [SlAt, frW, Rp]
        exact .inr ⟨p, vs, rfl, ⟨od, upd_same⟩, RpKv.mono ⟨kp, List.prefix_refl _⟩ _ _ b⟩
    · rw [List.getElem?_set_ne hij] at e
      obtain ⟨v, e1, q⟩ := r.slots j z e
      refine ⟨v, e1, ?_⟩
      cases hz : Sl.isOwn (some (some z)) with
      | false =>
        cases z with
        | fz w => exact Rp.mono ⟨kp, List.prefix_refl _⟩ _ _ q
        | ow xs => cases hz
        | od xs => cases hz
      | true =>
        obtain ⟨p2, ep, h2, oa2⟩ := q.own hz
        subst ep
        have hne : p2 ≠ p := fun z2 => by
          subst z2
          exact r.sep i j _ hij (by rw [hi]; exact ho) (by rw [e]; exact hz) hσ e1
        refine .of_own h2 ?_
        cases z with
        | fz w => cases hz
        | ow xs => obtain ⟨vs, a, b⟩ := oa2; exact ⟨vs, by rw [upd_ne hne]; exact a, RpAll.mono ⟨kp, List.prefix_refl _⟩ _ _ b⟩
        | od xs => obtain ⟨vs, a, b⟩ := oa2; exact ⟨vs, by rw [upd_ne hne]; exact a, RpKv.mono ⟨kp, List.prefix_refl _⟩ _ _ b⟩
  · exact r.sep j k u hjk (own' j e1).2 (own' k e2).2 e3 e4
end
end DL
namespace DL
open PySem PySem.Spec PyProof.Rows L2

/-! ### values with their standing -/
def FDQ (D : DC) (σ : L2.St) (ca : CA) (H : Hp) (Q : VK) (xs : List (W × W)) (ms' : MS) : Prop := ∀ p vs ca' H', Ext ca H ca' H' → Rel D ca' σ H' ms' → H' p = none → RpKv D.K ca' H' xs vs → Q (.ref p) (upd H' p (.dK vs))
abbrev KM := MS → R (List (W × W))
def RdD (D : DC) (Wx : WX) (m : KM) : TE := fun σ H Q => ∃ ca ms, Rel D ca σ H ms ∧ Po D Wx σ ca H (m ms) (FDQ D σ ca H Q)
def DD (D : DC) (Wx : WX) (X : Cx) (e : Expr) (m : KM) : Prop := PE X e (RdD D Wx m)
abbrev VM := MS → R Sl
def VQ (D : DC) (σ : L2.St) (ca : CA) (H : Hp) (Q : VK) (x : Sl) (ms' : MS) : Prop := match x with
  | .fz w => EQ D σ ca H Q w ms'
  | .ow xs => FQ D σ ca H Q xs ms'
  | .od kvs => FDQ D σ ca H Q kvs ms'
def RdV (D : DC) (Wx : WX) (m : VM) : TE := fun σ H Q => ∃ ca ms, Rel D ca σ H ms ∧ Po D Wx σ ca H (m ms) (VQ D σ ca H Q)
def DV (D : DC) (Wx : WX) (X : Cx) (e : Expr) (m : VM) : Prop := PE X e (RdV D Wx m)
def vFz (a : EM) : VM := fun m => (a m).bind fun w m => .ok (.fz w) m
def vOw (a : LM) : VM := fun m => (a m).bind fun w m => .ok (.ow w) m
def vOd (a : KM) : VM := fun m => (a m).bind fun w m => .ok (.od w) m
theorem Po.ok {D : DC} {Wx : WX} {σ : L2.St} {ca : CA} {H : Hp} {α β : Type} {r : R α} {f : α → β} {P : β → MS → Prop} (h : Po D Wx σ ca H (r.bind fun w m => .ok (f w) m) P) : Po D Wx σ ca H r fun w m => P (f w) m := by
  cases r with
  | ok a m => exact h
  | err c fs m => exact h
  | bad => exact h
section
variable {D : DC} {Wx : WX} {X : Cx} {e : Expr} {ma : EM} {ml : LM} {mk : KM} {mv : VM}
theorem dv_fz (h : DE D Wx X e ma) : DV D Wx X e (vFz ma) := PE.mono h fun σ H Q ⟨ca, ms, r, h⟩ => ⟨ca, ms, r, h.ok⟩
theorem dv_ow (h : DF D Wx X e ml) : DV D Wx X e (vOw ml) := PE.mono h fun σ H Q ⟨ca, ms, r, h⟩ => ⟨ca, ms, r, h.ok⟩
theorem dv_od (h : DD D Wx X e mk) : DV D Wx X e (vOd mk) := PE.mono h fun σ H Q ⟨ca, ms, r, h⟩ => ⟨ca, ms, r, h.ok⟩
end
theorem RdV.bind {D : DC} {Wx : WX} {σ : L2.St} {ca : CA} {H : Hp} {ms : MS} {ma : VM} {β : Type} {f : Sl → MS → R β} {P : β → MS → Prop} {Q : VK} (r : Rel D ca σ H ms) (h : Po D Wx σ ca H ((ma ms).bind f) P)
    (q : ∀ x ms1, Po D Wx σ ca H (f x ms1) P → VQ D σ ca H Q x ms1) : RdV D Wx ma σ H Q := by
  refine ⟨ca, ms, r, ?_⟩
  cases e : ma ms with
  | ok w ms1 =>
    rw [e] at h
    exact q w ms1 h
  | err c fs m =>
    rw [e] at h
    exact h
  | bad =>
    rw [e] at h
    exact h
/-! ### statements -/
def FP (D : DC) (ca : CA) (H : Hp) (Q : Ends) (f : Fl) (ms' : MS) : Prop := match f with
  | .next => ∀ σ' ca' H', Ext ca H ca' H' → Rel D ca' σ' H' ms' → Q.nx σ' H'
  | .brk => ∀ σ' ca' H', Ext ca H ca' H' → Rel D ca' σ' H' ms' → Q.bk σ' H'
  | .cont => ∀ σ' ca' H', Ext ca H ca' H' → Rel D ca' σ' H' ms' → Q.ct σ' H'
  | .ret w => ∀ v σ' ca' H', Ext ca H ca' H' → Rel D ca' σ' H' ms' → Rp D.K ca' H' w v → Q.rt v H'
section
variable {D : DC} {Wx : WX} {X : Cx} {Q : Ends} {σ : L2.St} {ca : CA} {H : Hp} {ms : MS} {m : SM}
theorem RdS.of (r : Rel D ca σ H ms) (h : Po D Wx σ ca H (m ms) (FP D ca H Q)) : RdS D Wx m Q σ H := ⟨ca, ms, r, h.imp fun f ms' q => by cases f <;> exact q⟩
theorem RdS.inv (h : RdS D Wx m Q σ H) : ∃ ca ms, Rel D ca σ H ms ∧ Po D Wx σ ca H (m ms) (FP D ca H Q) :=
  let ⟨ca, ms, r, h⟩ := h
  ⟨ca, ms, r, h.imp fun f ms' q => by cases f <;> exact q⟩
theorem FP.go {ca1 : CA} {H1 : Hp} (x : Ext ca H ca1 H1) : ∀ {f : Fl} {ms' : MS}, FP D ca H Q f ms' → FP D ca1 H1 Q f ms'
  | .next, _, q => fun σ' ca' H' x' => q σ' ca' H' (x.trans x')
  | .brk, _, q => fun σ' ca' H' x' => q σ' ca' H' (x.trans x')
  | .cont, _, q => fun σ' ca' H' x' => q σ' ca' H' (x.trans x')
  | .ret w, _, q => fun v σ' ca' H' x' => q v σ' ca' H' (x.trans x')
/-- the same elsewhere -/
theorem Po.goS {σ1 : L2.St} {ca1 : CA} {H1 : Hp} {r : R Fl} (x : Ext ca H ca1 H1) (h : Po D Wx σ ca H r (FP D ca H Q)) : Po D Wx σ1 ca1 H1 r (FP D ca1 H1 Q) := by
  have h2 := (h.ext x).imp (fun f ms' q => FP.go (D := D) (Q := Q) x q)
  cases r with
  | ok a m => exact h2
  | err c fs m => exact h2
  | bad => exact h2
end
def sNext : SM := fun m => .ok .next m
def sSeq (a b : SM) : SM := fun m => (a m).bind fun f m => match f with
  | .next => b m
  | .brk => .ok .brk m
  | .cont => .ok .cont m
  | .ret w => .ok (.ret w) m
def sDrop (a : EM) : SM := fun m => (a m).bind fun _ m => .ok .next m
def sRet (a : EM) : SM := fun m => (a m).bind fun w m => .ok (.ret w) m
def sIf (t : TM) (a b : SM) : SM := fun m => (t m).bind fun k m => if k = true then a m else b m
def sAsg (a : EM) (g : GM) : SM := fun m => (a m).bind fun w m => match g w m with
  | .ok _ m => .ok .next m
  | _ => .bad
def sSet (i : Nat) (a : VM) : SM := fun m => (a m).bind fun x m => .ok .next { m with env := m.env.set i (some x) }
section
variable {D : DC} {Wx : WX} {X : Cx} {st : Stmt} {rest a b : List Stmt} {e c tg : Expr} {pos : Pos} {m1 m2 : SM} {me : EM} {mt : TM} {mv : VM} {g : GM} {sl : List Nat}
theorem dss_nil : DSs D Wx X [] sNext := PSs.mono pss_nil fun Q σ H h => by
  obtain ⟨ca, ms, r, h⟩ := h.inv
  exact h σ ca H (.refl _ _) r
theorem seq_of {Q : Ends} {σ : L2.St} {H : Hp} (h : RdS D Wx (sSeq m1 m2) Q σ H) : tSeq (RdS D Wx m1) (RdS D Wx m2) Q σ H := by
  obtain ⟨ca, ms, r, h⟩ := h.inv
  refine RdS.of r ?_
  unfold sSeq at h
  cases e1 : m1 ms with
  | ok f ms1 =>
    rw [e1] at h
    cases f with
    | next => exact fun σ' ca' H' x r' => RdS.of r' (Po.goS x h)
    | brk => exact h
    | cont => exact h
    | ret w => exact h
  | err c fs m =>
    rw [e1] at h
    exact h
  | bad =>
    rw [e1] at h
    exact h
theorem dss_cons (h1 : DS D Wx X st m1) (h2 : DSs D Wx X rest m2) : DSs D Wx X (st :: rest) (sSeq m1 m2) := PSs.mono (pss_cons h1 h2) fun Q σ H h => seq_of h
theorem dss_one (h1 : DS D Wx X st m1) : DSs D Wx X [st] m1 := pss_one h1
theorem ds_pass : DS D Wx X (.Pass pos) sNext := PS.mono ps_pass fun Q σ H h => by
  obtain ⟨ca, ms, r, h⟩ := h.inv
  exact h σ ca H (.refl _ _) r
theorem ds_expr (h : DE D Wx X e me) (hs : swapsWith e none pos.line X.env = pure false := by rfl) : DS D Wx X (.Expr e pos) (sDrop me) := PS.mono (ps_expr h hs) fun Q σ H h => by
  obtain ⟨ca, ms, r, h⟩ := h.inv
  exact RdE.bind r h fun w v ms1 ca1 H1 x1 r1 p1 h1 => h1 σ ca1 H1 x1 r1
theorem ds_ret (h : DE D Wx X e me) : DS D Wx X (.Return (some e) pos) (sRet me) := PS.mono (ps_ret h) fun Q σ H h => by
  obtain ⟨ca, ms, r, h⟩ := h.inv
  exact RdE.bind r h fun w v ms1 ca1 H1 x1 r1 p1 h1 => h1 v σ ca1 H1 x1 r1 p1
theorem ds_if (hc : DT D Wx X c mt) (ha : DSs D Wx X a m1) (hb : DSs D Wx X b m2) : DS D Wx X (.If c a b pos) (sIf mt m1 m2) := PS.mono (ps_if hc ha hb) fun Q σ H h => by
  obtain ⟨ca, ms, r, h⟩ := h.inv
  refine RdT.bind r h fun k ms1 ca1 H1 x1 r1 h1 => ?_
  cases k with
  | true => exact RdS.of r1 (Po.goS x1 h1)
  | false => exact RdS.of r1 (Po.goS x1 h1)
theorem ds_asg (he : DE D Wx X e me) (hg : DG D X tg sl g) (hs : swapsWithSole [tg] e pos.line X.env = pure false := by rfl) (hw : swappedStores [tg] e X.env = pure none := by rfl)
    (h1 : (assignEach [tg] X.env).map (·.2) = [assign tg X.env] := by rfl) : DS D Wx X (.Assign [tg] e pos) (sAsg me g) := PS.mono (ps_asg he hg.pg hs hw h1) fun Q σ H h => by
  obtain ⟨ca, ms, r, h⟩ := h.inv
  refine RdE.bind r h fun w v ms1 ca1 H1 x1 r1 p1 h1 => ?_
  cases e1 : g w ms1 with
  | ok u m =>
    rw [e1] at h1
    exact ⟨ca1, ms1, w, r1, p1, m, e1, fun σ' ca' H' _ _ x r' => h1 σ' ca' H' (x1.trans x) r'⟩
  | err c fs m =>
    rw [e1] at h1
    exact h1.elim
  | bad =>
    rw [e1] at h1
    exact h1.elim
/-- the slot after a store -/
theorem VQ.set {σ : L2.St} {ca : CA} {H : Hp} {Q : VK} {x : Sl} {ms1 : MS} {i : Nat} (q : ∀ v ca' H', Ext ca H ca' H' → Rel D ca' (σ.set i (some v)) H' { ms1 with env := ms1.env.set i (some x) } → Q v H') : VQ D σ ca H Q x ms1 := by
  cases x with
  | fz w => exact fun v ca' H' x r p => q v ca' H' x (r.set p i)
  | ow xs => exact fun p vs ca' H' x r np rp => q _ ca' _ (x.trans (.of_same (Same.upd_new np))) (r.own_new np ⟨vs, upd_same, RpAll.mono (.of_same (Same.upd_new np)) _ _ rp⟩ rfl)
  | od xs => exact fun p vs ca' H' x r np rp => q _ ca' _ (x.trans (.of_same (Same.upd_new np))) (r.own_new np ⟨vs, upd_same, RpKv.mono (.of_same (Same.upd_new np)) _ _ rp⟩ rfl)
theorem set_of {σ : L2.St} {H : Hp} {Q : Ends} {i : Nat} (h : RdS D Wx (sSet i mv) Q σ H) : tAsg (RdV D Wx mv) (gName i) Q σ H := by
  obtain ⟨ca, ms, r, h⟩ := h.inv
  exact RdV.bind r h fun x ms1 h1 => VQ.set fun v ca' H' x' r' => h1 _ ca' H' x' r'
theorem ds_set {i : Nat} {x : Str} {pos' : Pos} (hN : X.N.Nodup) (hi : X.N[i]? = some x) (hx : Loc X.env.scope x) (he : DV D Wx X e mv) (hs : swapsWith e (some (.Name x pos')) pos.line X.env = pure false := by rfl)
    (hf : X.fn x = true ∨ X.env.scope.names.lookup x = some .local := by first | exact .inl rfl | exact .inr rfl | assumption) : DS D Wx X (.Assign [.Name x pos'] e pos) (sSet i mv) :=
  PS.mono (ps_set hN hi hx he hs hf) fun Q σ H h => set_of h
/-- name = [..] on one line -/
theorem ds_setLc {i : Nat} {y : Str} {py : Pos} {elt tg iter : Expr} {ifs : List Expr} {scope : Scope} {own : List (Str × Nat)} {lpos spos : Pos} {it : LM} {g : GM} {t : TM} {el : EM} (hK : D.K = X.K) (hc : X.calm = true) (hN : X.N.Nodup) (hy : X.N[i]? = some y)
    (hyl : X.env.scope.names.lookup y = some .local) (hsw : swapsWith (.ListComp elt [⟨tg, iter, ifs, 0⟩] scope lpos) (some (.Name y py)) spos.line X.env = pure true)
    (hi : DI D Wx X tg iter it) (ok : BlkOk X.N X.env.scope scope own) (hg : Blks X scope fun Y => ∀ D' : DC, D'.K = X.K → D'.st = D.st → DG D' Y tg sl g)
    (ht : Blks X scope fun Y => ∀ D' : DC, D'.K = X.K → D'.st = D.st → PTs Y ifs (RdT D' W0 t)) (he : Blks X scope fun Y => ∀ D' : DC, D'.K = X.K → D'.st = D.st → DE D' W0 Y elt el) (htq : TQt t) (heq : EQt el) (hv : ∀ i ∈ sl, i ∈ own.map (·.2)) (hs : ∀ x, foldedSetIterable iter X.env x = pure x := by intro _; rfl) :
    DS D Wx X (.Assign [.Name y py] (.ListComp elt [⟨tg, iter, ifs, 0⟩] scope lpos) spos) (sSet i (vOw (fComp it g t el (own.map (·.2))))) :=
  PS.mono (ps_setLc hc hN hy hyl hsw hi ok (g := gAny_ D sl g) (tt := tAny_ D t) (te := eAny_ D el)
    (fun s H C cl fp => ⟨fun pins s' σ H' v u Q I r ⟨D', hD, hS, h⟩ => (hg s H C cl fp D' (hD.trans hK) hS).pg.run pins s' σ H' v u Q I r h⟩)
    (fun s H C cl fp => ⟨fun pins s' σ H' Q I ⟨D', hD, hS, h⟩ => (ht s H C cl fp D' (hD.trans hK) hS).run pins s' σ H' Q I h⟩)
    (fun s H C cl fp => ⟨fun pins s' σ H' Q I ⟨D', hD, hS, h⟩ => (he s H C cl fp D' (hD.trans hK) hS).run pins s' σ H' Q I h⟩) hs) fun Q σ H h => by
      obtain ⟨ca, ms, r, h1⟩ := set_of h
      exact comp_of (hg X.s_0 X.H_0 0 [] [] D hK rfl).gq htq heq hv ⟨ca, ms, r, h1.ok⟩
/-! ### for, while -/
def forGo (g : GM) (body : SM) : List W → MS → R Fl
  | [], m => .ok .next m
  | x :: xs, m => match g x m with
    | .ok _ m => (body m).bind fun f m => match f with
      | .next => forGo g body xs m
      | .cont => forGo g body xs m
      | .brk => .ok .next m
      | .ret w => .ok (.ret w) m
    | _ => .bad
def sFor (it : LM) (g : GM) (body : SM) : SM := fun m => (it m).bind fun xs m => forGo g body xs m
theorem ds_for {iter : Expr} {body : List Stmt} {it : LM} {mb : SM} (hp : PassesOwn (model X.prog X.w) X.A X.env X.xe) (hc : X.calm = true) (hi : DI D Wx X tg iter it) (hg : DG D X tg sl g) (hb : DSs D Wx X body mb)
    (hs : ∀ x, foldedSetIterable iter X.env x = pure x := by intro _; rfl) : DS D Wx X (.For tg iter body [] pos) (sFor it g mb) := PS.mono (ps_for hp hc hi hg.pg hb hs) fun Q σ H h => by
  obtain ⟨ca, ms, r, h⟩ := h.inv
  refine RdI.bind r h fun xs J ms1 ca1 H1 x1 r1 dw h1 => ?_
  refine ⟨fun i m σ' H' => m = xs.length - i ∧ i ≤ xs.length ∧ ∃ ca' ms', Ext ca1 H1 ca' H' ∧ Rel D ca' σ' H' ms' ∧ Po D Wx σ ca' H' (forGo g mb (xs.drop i) ms') (FP D ca' H' Q), ⟨xs.length, by simp, Nat.zero_le _, ca1, ms1, .refl _ _, r1, Po.goS x1 (by simpa using h1)⟩, ?_⟩
  rintro i m σ' H' ⟨rfl, hle, ca', ms', x', r', h'⟩
  by_cases hlt : i < xs.length
  · refine .inr ⟨dw.goes i H' hlt x'.kp, fun σ2 H2 => ∃ ca2 ms2, Ext ca1 H1 ca2 H2 ∧ Rel D ca2 σ2 H2 ms2 ∧ Po D Wx σ ca2 H2 (forGo g mb (xs.drop (i + 1)) ms2) (FP D ca2 H2 Q), fun σ2 H2 q => ⟨xs.length - (i + 1), by omega, rfl, hlt, q⟩, fun x H2 hy => ?_⟩
    have hx : xs[i]? = some xs[i] := by simp [hlt]
    obtain ⟨sm, px⟩ := dw.yields i H' x H2 xs[i] x'.kp hx hy
    rw [List.drop_eq_getElem_cons hlt] at h'
    unfold forGo at h'
    split at h'
    · rename_i u m2 eg
      refine ⟨ca', ms', xs[i], r'.grow sm, Rp.mono ⟨.refl _, x'.pre⟩ _ _ px, m2, eg, fun σ3 ca3 H3 _ _ x3 r3 => ?_⟩
      have h3 : Po D Wx σ ca3 H3 _ (FP D ca3 H3 Q) := Po.goS ((Ext.of_same sm).trans x3) h'
      refine RdS.of r3 ?_
      have xx : Ext ca1 H1 ca3 H3 := x'.trans ((Ext.of_same sm).trans x3)
      cases eb : mb m2 with
      | ok f m4 =>
        rw [eb] at h3
        cases f with
        | next => exact fun σ4 ca4 H4 x4 r4 => ⟨ca4, m4, xx.trans x4, r4, Po.goS x4 h3⟩
        | cont => exact fun σ4 ca4 H4 x4 r4 => ⟨ca4, m4, xx.trans x4, r4, Po.goS x4 h3⟩
        | brk => exact h3
        | ret w => exact h3
      | err c fs m =>
        rw [eb] at h3
        exact h3
      | bad =>
        rw [eb] at h3
        exact h3
    · exact h'.elim
  · have e : i = xs.length := by omega
    subst e
    rw [List.drop_length] at h'
    exact .inl ⟨dw.stops H' x'.kp, h' σ' ca' H' (.refl _ _) r'⟩
def whGo (c : TM) (body : SM) : Nat → MS → R Fl
  | 0, _ => .bad
  | n + 1, m => (c m).bind fun k m => if k = true then (body m).bind fun f m => match f with
      | .next => whGo c body n m
      | .cont => whGo c body n m
      | .brk => .ok .next m
      | .ret w => .ok (.ret w) m
    else .ok .next m
def sWhile (fu : MS → Nat) (c : TM) (body : SM) : SM := fun m => whGo c body (fu m) m
theorem ds_while {body : List Stmt} {mb : SM} {fu : MS → Nat} (hp : PassesOwn (model X.prog X.w) X.A X.env X.xe) (hc : DT D Wx X c mt) (hb : DSs D Wx X body mb) : DS D Wx X (.While c body [] pos) (sWhile fu mt mb) := PS.mono (ps_while hp hc hb) fun Q σ H h => by
  obtain ⟨ca, ms, r, h⟩ := h.inv
  refine ⟨fun n σ' H' => ∃ ca' ms', Ext ca H ca' H' ∧ Rel D ca' σ' H' ms' ∧ Po D Wx σ ca' H' (whGo mt mb n ms') (FP D ca' H' Q), ⟨fu ms, ca, ms, .refl _ _, r, h⟩, ?_⟩
  rintro n σ' H' ⟨ca', ms', x', r', h'⟩
  cases n with
  | zero => exact h'.elim
  | succ n =>
    unfold whGo at h'
    have h2 : Po D Wx σ' ca' H' _ (FP D ca' H' Q) := Po.goS (.refl _ _) h'
    refine RdT.bind r' h2 fun k ms1 ca1 H1 x1 r1 h1 => ?_
    cases k with
    | false =>
      rw [if_neg (by decide)] at h1 ⊢
      exact h1 σ' ca1 H1 x1 r1
    | true =>
      rw [if_pos rfl] at h1 ⊢
      refine ⟨fun σ2 H2 => ∃ ca2 ms2, Ext ca H ca2 H2 ∧ Rel D ca2 σ2 H2 ms2 ∧ Po D Wx σ ca2 H2 (whGo mt mb n ms2) (FP D ca2 H2 Q), fun σ2 H2 q => ⟨n, Nat.lt_succ_self _, q⟩, RdS.of r1 ?_⟩
      have h3 : Po D Wx σ' ca1 H1 _ (FP D ca1 H1 Q) := Po.goS x1 h1
      have xx := x'.trans x1
      cases eb : mb ms1 with
      | ok f m4 =>
        rw [eb] at h3
        cases f with
        | next => exact fun σ4 ca4 H4 x4 r4 => ⟨ca4, m4, xx.trans x4, r4, Po.goS x4 h3⟩
        | cont => exact fun σ4 ca4 H4 x4 r4 => ⟨ca4, m4, xx.trans x4, r4, Po.goS x4 h3⟩
        | brk => exact h3
        | ret w => exact h3
      | err c fs m =>
        rw [eb] at h3
        exact h3
      | bad =>
        rw [eb] at h3
        exact h3
end
end DL
namespace DL
open PySem PySem.Spec PyProof.Rows L2

/-! ### freezing for good -/
def sFreeze (i : Nat) : SM := fun m => match m.env[i]? with
  | some (some (.ow xs)) => .ok .next { m with env := m.env.set i (some (.fz (.list xs))) }
  | some (some (.od kvs)) => .ok .next { m with env := m.env.set i (some (.fz (.dict kvs))) }
  | _ => .bad
def ownAt (env : List (Option Sl)) (i : Nat) : Option Sl := match env[i]? with
  | some (some (.ow xs)) => some (.ow xs)
  | some (some (.od kvs)) => some (.od kvs)
  | _ => none
theorem ownAt_some {env : List (Option Sl)} {i : Nat} {x : Sl} (h : ownAt env i = some x) : env[i]? = some (some x) ∧ Sl.isOwn (some (some x)) = true := by
  unfold ownAt at h
  split at h
  · rename_i e; cases h; exact ⟨e, rfl⟩
  · rename_i e; cases h; exact ⟨e, rfl⟩
  · cases h
theorem sFreeze_eq {i : Nat} {m : MS} : sFreeze i m = match ownAt m.env i with
  | some x => .ok .next { m with env := m.env.set i (some (.fz (frW x))) }
  | none => .bad := by
  unfold sFreeze ownAt
  split <;> rename_i h <;> rfl
section
variable {D : DC} {ca : CA} {σ : L2.St} {H : Hp} {ms : MS}
/-- where an own thing lies -/
theorem Rel.own_at {i : Nat} {x : Sl} (r : Rel D ca σ H ms) (h : ownAt ms.env i = some x) : ∃ p o, σ[i]? = some (some (.ref p)) ∧ OwnAt D.K ca H p x ∧ H p = some o ∧ Mut (some o) ∧ D.H0 p = none := by
  obtain ⟨h1, h2⟩ := ownAt_some h
  obtain ⟨v, e1, sl⟩ := r.slots i x h1
  obtain ⟨p, rfl, h0, oa⟩ := sl.own h2
  obtain ⟨o, ho, mu⟩ := oa.mut
  exact ⟨p, o, e1, oa, ho, mu, h0⟩
end
section
variable {D : DC} {Wx : WX} {X : Cx} {rest : List Stmt} {m : SM}
theorem pss_lockp {sts : List Stmt} {t : TS} (h : PSs X sts t) : PSs X sts (fun Q σ H => ∃ d u, H d = some u ∧ Mut (some u) ∧ ∀ od, t Q σ (upd H d (.frz od u))) :=
  ⟨fun pins s σ H Q I ⟨d, u, hd, mu, hw⟩ => by
    obtain ⟨od, I1⟩ := I.lock hd mu
    exact h.run pins s σ _ Q I1 (hw od)⟩
theorem dss_freeze {i : Nat} (h : DSs D Wx X rest m) : DSs D Wx X rest (sSeq (sFreeze i) m) := PSs.mono (pss_lockp h) fun Q σ H h => by
  obtain ⟨ca, ms, r, h⟩ := h.inv
  unfold sSeq at h
  rw [sFreeze_eq] at h
  cases e : ownAt ms.env i with
  | none => rw [e] at h; exact h.elim
  | some x =>
    rw [e] at h
    obtain ⟨p, o, hσ, oa, ho, mu, h0⟩ := r.own_at e
    obtain ⟨h1, h2⟩ := ownAt_some e
    refine ⟨p, o, ho, mu, fun od => RdS.of (r.freeze od h1 h2 hσ ho) (Po.goS ⟨Kp.upd_mut ho mu, List.prefix_refl _⟩ h)⟩
end
/-! ### held while an expression runs -/
/-- nothing within that is a list or a dict -/
def lf : W → Bool
  | .list _ => false
  | .dict _ => false
  | .tuple xs => lfs xs
  | _ => true
where lfs : List W → Bool
  | [] => true
  | x :: xs => lf x && lfs xs
mutual
theorem Rp.lf {K : PySem.W.Frag} {ca ca' : CA} {H H' : Hp} (k : ∀ b xs, H b = some (.tup xs) → H' b = some (.tup xs)) : ∀ (w : W) (v : V), DL.lf w = true → Rp K ca H w v → Rp K ca' H' w v
  | .none, v, _, h => by simpa only [Rp] using h
  | .bool b, v, _, h => by simpa only [Rp] using h
  | .int b, v, _, h => by simpa only [Rp] using h
  | .str b, v, _, h => by simpa only [Rp] using h
  | .list xs, v, l, h => by simp [DL.lf] at l
  | .tuple xs, v, l, h => by
    simp only [Rp] at h ⊢
    obtain ⟨a, vs, e, f, r⟩ := h
    refine ⟨a, vs, e, ?_, RpAll.lf k xs vs (by simpa only [DL.lf] using l) r⟩
    rcases f with f | f
    · exact .inl (k _ _ f)
    · exact .inr f
  | .dict kvs, v, l, h => by simp [DL.lf] at l
theorem RpAll.lf {K : PySem.W.Frag} {ca ca' : CA} {H H' : Hp} (k : ∀ b xs, H b = some (.tup xs) → H' b = some (.tup xs)) : ∀ (xs : List W) (vs : List V), DL.lf.lfs xs = true → RpAll K ca H xs vs → RpAll K ca' H' xs vs
  | [], vs, _, h => by simpa only [RpAll] using h
  | y :: ys, vs, l, h => by
    simp only [RpAll] at h ⊢
    simp only [DL.lf.lfs, Bool.and_eq_true] at l
    obtain ⟨v, r, e, h1, h2⟩ := h
    exact ⟨v, r, e, Rp.lf k y v l.1 h1, RpAll.lf k ys r l.2 h2⟩
end
def fsLf : List (Str × W) → Bool
  | [] => true
  | (_, w) :: r => lf w && fsLf r
def cellLf : Cell → Bool
  | .draw _ _ _ _ => true
  | .inst _ fs => fsLf fs
theorem RpFs.lf {K : PySem.W.Frag} {ca ca' : CA} {H H' : Hp} (k : ∀ b xs, H b = some (.tup xs) → H' b = some (.tup xs)) : ∀ (xs : List (Str × W)) (vs : List (Str × V)), fsLf xs = true → RpFs K ca H xs vs → RpFs K ca' H' xs vs
  | [], vs, _, h => by simpa only [RpFs] using h
  | (n, y) :: ys, vs, l, h => by
    simp only [RpFs] at h ⊢
    simp only [fsLf, Bool.and_eq_true] at l
    obtain ⟨v, r, e, h1, h2⟩ := h
    exact ⟨v, r, e, Rp.lf k y v l.1 h1, RpFs.lf k ys r l.2 h2⟩
def kvLf : List (W × W) → Bool
  | [] => true
  | (_, w) :: r => lf w && kvLf r
theorem RpKv.lf {K : PySem.W.Frag} {ca ca' : CA} {H H' : Hp} (k : ∀ b xs, H b = some (.tup xs) → H' b = some (.tup xs)) : ∀ (xs : List (W × W)) (vs : List (Key × V)), kvLf xs = true → RpKv K ca H xs vs → RpKv K ca' H' xs vs
  | [], vs, _, h => by simpa only [RpKv] using h
  | (n, y) :: ys, vs, l, h => by
    simp only [RpKv] at h ⊢
    simp only [kvLf, Bool.and_eq_true] at l
    obtain ⟨q, v, r, e, e2, h1, h2⟩ := h
    exact ⟨q, v, r, e, e2, Rp.lf k y v l.1 h1, RpKv.lf k ys r l.2 h2⟩
def slLf : Option Sl → Bool
  | some (.ow xs) => lf.lfs xs
  | some (.od kvs) => kvLf kvs
  | _ => true
/-- after a hold: the own thing is as it was -/
theorem Rel.thaw {D : DC} {ca ca' : CA} {σ : L2.St} {H H' : Hp} {ms ms' : MS} {i : Nat} {p : Addr} {x : Sl} {u : HO} {od : Obj} (r : Rel D ca σ H ms) (hx : ownAt ms.env i = some x) (hσ : σ[i]? = some (some (.ref p))) (hu : H p = some u)
    (r' : Rel D ca' σ H' ms') (x' : Ext ca (upd H p (.frz od u)) ca' H') (he : ms'.env = ms.env.set i (some (.fz (frW x)))) (hc : ms'.cells.all cellLf = true) (hoth : (ms.env.set i none).all slLf = true) :
    H' p = some (.frz od u) ∧ Ext ca H ca' (upd H' p u) ∧ Rel D ca' σ (upd H' p u) ⟨ms.env, ms'.cells⟩ ∧ ∀ w v, lf w = true → Rp D.K ca' H' w v → Rp D.K ca' (upd H' p u) w v := by
  obtain ⟨hi, ho⟩ := ownAt_some hx
  obtain ⟨p', o, hσ', oa, hp', mu, h0⟩ := r.own_at hx
  rw [hσ] at hσ'
  cases hσ'
  rw [hu] at hp'
  cases hp'
  have hf : H' p = some (.frz od u) := x'.kp.frz p od u upd_same
  have hlt := env_own hi
  -- what is kept in between
  have kp : Kp H (upd H' p u) := ⟨fun b xs e => by
      have hb : b ≠ p := fun z => by subst z; rw [hu] at e; cases e; exact mu
      rw [upd_ne hb]
      exact x'.kp.tup b xs (by rw [upd_ne hb]; exact e),
    fun b o2 v e => by
      have hb : b ≠ p := fun z => by subst z; rw [hu] at e; cases e; exact mu
      rw [upd_ne hb]
      exact x'.kp.frz b o2 v (by rw [upd_ne hb]; exact e)⟩
  have kt : ∀ b xs, H' b = some (.tup xs) → upd H' p u b = some (.tup xs) := fun b xs e => by
    have hb : b ≠ p := fun z => by subst z; rw [hf] at e; cases e
    rw [upd_ne hb]; exact e
  have xx : Ext ca H ca' (upd H' p u) := ⟨kp, x'.pre⟩
  have hca' : p ∉ ca'.flatten := by
    intro hm
    have hst : H p ≠ none := by rw [hu]; exact fun z => nomatch z
    rcases r'.ca_split hm with h | h
    · exact r.oca i p (by rw [hi]; exact ho) hσ (r.ca0_sub h)
    · by_cases st : D.st = true
      · obtain ⟨k, as, e, hb⟩ := mem_flat hm
        have hl := r'.len
        rw [if_pos st] at hl
        have hk : k < ca'.length := by
          rcases Nat.lt_or_ge k ca'.length with h | h
          · exact h
          · rw [List.getElem?_eq_none h] at e; cases e
        have ec : ms'.cells[k]? = some ms'.cells[k] := by simp
        have cat := r'.cells k _ as ec e
        generalize hcc : ms'.cells[k] = c at cat
        cases c with
        | draw cs ls a rm =>
          obtain ⟨s, c, l, e1, h1, h2, h3⟩ := cat
          subst e1
          have e1 : p = s ∨ p = c ∨ p = l := by simpa using hb
          rcases e1 with rfl | rfl | rfl
          · rw [hf] at h1; cases h1
          · rw [hf] at h2; cases h2
          · rw [hf] at h3; cases h3
        | inst cn fs =>
          obtain ⟨y, dx, fs', e1, h1, h2, _⟩ := cat
          subst e1
          have e1 : p = y ∨ p = dx := by simpa using hb
          rcases e1 with rfl | rfl
          · rw [hf] at h1; cases h1
          · rw [hf] at h2; cases h2
      · have hl := r'.len
        rw [if_neg st] at hl
        rw [hl.2, List.drop_length] at h
        cases h
  refine ⟨hf, xx, ⟨r'.len, fun k c as e1 e2 => ?_, r'.nd, r'.pre, fun b q hb hn => ?_, r'.new, r.slen, fun j z e => ?_, r.sep, r.c0, fun j q e1 e2 hm => ?_⟩, fun w v l h => Rp.lf kt w v l h⟩
  · have cat := r'.cells k c as e1 e2
    have hb : ∀ b ∈ as, ∀ o2, H' b = some o2 → upd H' p u b = some o2 := fun b hb o2 e => by
      rw [upd_ne (fun z => by subst z; exact hca' (flat_mem e2 hb))]; exact e
    cases c with
    | draw cs ls a rm =>
      obtain ⟨s, c, l, e1, h1, h2, h3⟩ := cat
      subst e1
      exact ⟨s, c, l, rfl, hb _ (by simp) _ h1, hb _ (by simp) _ h2, hb _ (by simp) _ h3⟩
    | inst cn fs =>
      obtain ⟨y, dx, fs', e3, h1, h2, h3⟩ := cat
      subst e3
      have hcl : cellLf (.inst cn fs) = true := by
        rw [List.all_eq_true] at hc
        exact hc _ (List.mem_of_getElem? e1)
      exact ⟨y, dx, fs', rfl, hb _ (by simp) _ h1, hb _ (by simp) _ h2, RpFs.lf kt _ _ hcl h3⟩
  · rw [upd_ne (fun z => by subst z; rw [h0] at hb; cases hb)]
    exact r'.fr b q hb hn
  · have e : ms.env[j]? = some (some z) := e
    by_cases hij : i = j
    · subst hij
      rw [hi] at e
      cases e
      refine ⟨.ref p, hσ, .of_own h0 ?_⟩
      cases x with
      | fz w => cases ho
      | ow xs =>
        obtain ⟨vs, a, b⟩ := oa
        rw [hu] at a
        cases a
        exact ⟨vs, upd_same, RpAll.mono xx _ _ b⟩
      | od xs =>
        obtain ⟨vs, a, b⟩ := oa
        rw [hu] at a
        cases a
        exact ⟨vs, upd_same, RpKv.mono xx _ _ b⟩
    · obtain ⟨v0, e0, q0⟩ := r.slots j z e
      cases hz : Sl.isOwn (some (some z)) with
      | false =>
        cases z with
        | fz w => exact ⟨v0, e0, Rp.mono xx _ _ q0⟩
        | ow xs => cases hz
        | od xs => cases hz
      | true =>
        have e' : ms'.env[j]? = some (some z) := by rw [he, List.getElem?_set_ne hij]; exact e
        obtain ⟨v, e1, q⟩ := r'.slots j z e'
        rw [e0] at e1
        cases e1
        obtain ⟨p2, ep, h2, oa2⟩ := q.own hz
        subst ep
        have hne : p2 ≠ p := fun z2 => by
          subst z2
          exact r.sep i j _ hij (by rw [hi]; exact ho) (by rw [e]; exact hz) hσ e0
        refine ⟨.ref p2, e0, .of_own h2 ?_⟩
        have hl : slLf (some z) = true := by
          rw [List.all_eq_true] at hoth
          exact hoth _ (List.mem_of_getElem? (i := j) (by rw [List.getElem?_set_ne hij]; exact e))
        cases z with
        | fz w => cases hz
        | ow xs =>
          obtain ⟨vs, a, b⟩ := oa2
          exact ⟨vs, by rw [upd_ne hne]; exact a, RpAll.lf kt _ _ hl b⟩
        | od xs =>
          obtain ⟨vs, a, b⟩ := oa2
          exact ⟨vs, by rw [upd_ne hne]; exact a, RpKv.lf kt _ _ hl b⟩
  · by_cases hij : i = j
    · subst hij
      rw [hσ] at e2
      cases e2
      exact hca' hm
    · exact r'.oca j q (by rw [he, List.getElem?_set_ne hij]; exact e1) e2 hm
def heldOk (env : List (Option Sl)) (i : Nat) (cs : List Cell) : Bool := cs.all cellLf && (env.set i none).all slLf
def eHold (i : Nat) (a : EM) : EM := fun m => match ownAt m.env i with
  | some x => match a { m with env := m.env.set i (some (.fz (frW x))) } with
    | .ok w m' => if (lf w && heldOk m.env i m'.cells) = true then .ok w { m' with env := m.env } else .bad
    | _ => .bad
  | none => .bad
def tHold (i : Nat) (a : TM) : TM := fun m => match ownAt m.env i with
  | some x => match a { m with env := m.env.set i (some (.fz (frW x))) } with
    | .ok w m' => if heldOk m.env i m'.cells = true then .ok w { m' with env := m.env } else .bad
    | _ => .bad
  | none => .bad
section
variable {D : DC} {Wx : WX} {X : Cx} {e : Expr} {me : EM} {mt : TM} {i : Nat}
theorem pt_lock {e : Expr} {t : TT} (h : PT X e t) : PT X e (fun σ H Q => ∃ d u, H d = some u ∧ Mut (some u) ∧ ∀ od, t σ (upd H d (.frz od u)) fun v H' => H' d = some (.frz od u) ∧ Q v (upd H' d u)) := by
  refine ⟨fun pins s σ H Q I ⟨d, u, hd, mu, hw⟩ => ?_⟩
  obtain ⟨od, I1⟩ := I.lock hd mu
  refine thn (h.run pins s σ _ _ I1 (hw od)) fun v s1 ⟨H1, I2, e2, q⟩ => ?_
  exact ⟨_, I2.unlock e2 (I.nofrz hd mu), q⟩
theorem de_hold (h : DE D Wx X e me) (hq : EQt me) : DE D Wx X e (eHold i me) := PE.mono (pe_lock h) fun σ H Q ⟨ca, ms, r, h⟩ => by
  unfold eHold at h
  cases ex : ownAt ms.env i with
  | none => rw [ex] at h; exact h.elim
  | some x =>
    rw [ex] at h
    obtain ⟨p, u, hσ, oa, hu, mu, h0⟩ := r.own_at ex
    obtain ⟨h1, h2⟩ := ownAt_some ex
    refine ⟨p, u, hu, mu, fun od => ?_⟩
    have r1 := r.freeze od h1 h2 hσ hu
    cases em : me { ms with env := ms.env.set i (some (.fz (frW x))) } with
    | ok w m' =>
      simp only [em] at h
      by_cases hk : (lf w && heldOk ms.env i m'.cells) = true
      · rw [if_pos hk] at h
        simp only [Bool.and_eq_true, heldOk] at hk
        refine ⟨ca, _, r1, ?_⟩
        rw [em]
        refine fun v ca' H' x' r' pv => ?_
        obtain ⟨hf, xx, rr, lfk⟩ := r.thaw ex hσ hu r' x' (hq _ _ _ em) hk.2.1 hk.2.2
        exact ⟨hf, h v ca' _ xx rr (lfk w v hk.1 pv)⟩
      · rw [if_neg hk] at h; exact h.elim
    | err c fs m => simp only [em] at h; exact h.elim
    | bad => simp only [em] at h; exact h.elim
def fHold (i : Nat) (a : LM) : LM := fun m => match ownAt m.env i with
  | some x => match a { m with env := m.env.set i (some (.fz (frW x))) } with
    | .ok ws m' => if (lf.lfs ws && heldOk m.env i m'.cells) = true then .ok ws { m' with env := m.env } else .bad
    | _ => .bad
  | none => .bad
theorem df_hold {ml : LM} (h : DF D Wx X e ml) (hq : ∀ s w s', ml s = .ok w s' → s'.env = s.env) : DF D Wx X e (fHold i ml) := PE.mono (pe_lock h) fun σ H Q ⟨ca, ms, r, h⟩ => by
  unfold fHold at h
  cases ex : ownAt ms.env i with
  | none => rw [ex] at h; exact h.elim
  | some x =>
    rw [ex] at h
    obtain ⟨p, u, hσ, oa, hu, mu, h0⟩ := r.own_at ex
    obtain ⟨h1, h2⟩ := ownAt_some ex
    refine ⟨p, u, hu, mu, fun od => ?_⟩
    have r1 := r.freeze od h1 h2 hσ hu
    cases em : ml { ms with env := ms.env.set i (some (.fz (frW x))) } with
    | ok w m' =>
      simp only [em] at h
      by_cases hk : (lf.lfs w && heldOk ms.env i m'.cells) = true
      · rw [if_pos hk] at h
        simp only [Bool.and_eq_true, heldOk] at hk
        refine ⟨ca, _, r1, ?_⟩
        rw [em]
        refine fun b vs ca' H' x' r' nb pv => ?_
        obtain ⟨hf, xx, rr, lfk⟩ := r.thaw ex hσ hu r' x' (hq _ _ _ em) hk.2.1 hk.2.2
        have hpb : p ≠ b := fun z => by subst z; rw [hf] at nb; cases nb
        refine ⟨by rw [upd_ne hpb]; exact hf, ?_⟩
        have kt : ∀ c xs, H' c = some (.tup xs) → upd H' p u c = some (.tup xs) := fun c xs e => by
          have hb : c ≠ p := fun z => by subst z; rw [hf] at e; cases e
          rw [upd_ne hb]; exact e
        have eH : upd (upd H' b (.lst vs)) p u = upd (upd H' p u) b (.lst vs) := by
          funext c
          by_cases h1 : c = p
          · subst h1
            rw [upd_same, upd_ne hpb, upd_same]
          · rw [upd_ne h1]
            by_cases h2 : c = b
            · subst h2; rw [upd_same, upd_same]
            · rw [upd_ne h2, upd_ne h2, upd_ne h1]
        rw [eH]
        exact h b vs ca' _ xx rr (by rw [upd_ne (Ne.symm hpb)]; exact nb) (RpAll.lf kt _ _ hk.1 pv)
      · rw [if_neg hk] at h; exact h.elim
    | err c fs m => simp only [em] at h; exact h.elim
    | bad => simp only [em] at h; exact h.elim
theorem dt_hold (h : DT D Wx X e mt) (hq : TQt mt) : DT D Wx X e (tHold i mt) := PT.mono (pt_lock h) fun σ H Q ⟨ca, ms, r, h⟩ => by
  unfold tHold at h
  cases ex : ownAt ms.env i with
  | none => rw [ex] at h; exact h.elim
  | some x =>
    rw [ex] at h
    obtain ⟨p, u, hσ, oa, hu, mu, h0⟩ := r.own_at ex
    obtain ⟨h1, h2⟩ := ownAt_some ex
    refine ⟨p, u, hu, mu, fun od => ?_⟩
    have r1 := r.freeze od h1 h2 hσ hu
    cases em : mt { ms with env := ms.env.set i (some (.fz (frW x))) } with
    | ok w m' =>
      simp only [em] at h
      by_cases hk : heldOk ms.env i m'.cells = true
      · rw [if_pos hk] at h
        simp only [Bool.and_eq_true, heldOk] at hk
        refine ⟨ca, _, r1, ?_⟩
        rw [em]
        refine fun ca' H' x' r' => ?_
        obtain ⟨hf, xx, rr, lfk⟩ := r.thaw ex hσ hu r' x' (hq _ _ _ em) hk.1 hk.2
        exact ⟨hf, h ca' _ xx rr⟩
      · rw [if_neg hk] at h; exact h.elim
    | err c fs m => simp only [em] at h; exact h.elim
    | bad => simp only [em] at h; exact h.elim
end
end DL
namespace DL
open PySem PySem.Spec PyProof.Rows L2

/-! ### methods of an own list -/
def eOwn (i : Nat) (l : LM) (g : List W → List W → Option (W × List W)) : EM := fun m => match ownAt m.env i with
  | some (.ow _) => (l m).bind fun ws m => match ownAt m.env i with
    | some (.ow xs) => match g xs ws with
      | some (w, ys) => .ok w { m with env := m.env.set i (some (.ow ys)) }
      | none => .bad
    | _ => .bad
  | _ => .bad
def DOwn (X : Cx) (id : String) (g : List W → List W → Option (W × List W)) : Prop :=
  ∃ r : V → List V → Hp → VK → Prop, MtR X id r ∧ ∀ (K : PySem.W.Frag) (ca : CA) (H : Hp) (p : Addr) (xs ws ys : List W) (vs us : List V) (w : W) (Q : VK), H p = some (.lst vs) → RpAll K ca H xs vs → RpAll K ca H ws us → g xs ws = some (w, ys) →
    (∀ v vs', RpAll K ca H ys vs' → Rp K ca H w v → Q v (upd H p (.lst vs'))) → r (.ref p) us H Q
def gApp (xs ws : List W) : Option (W × List W) := match ws with
  | [w] => if szOk (xs.length + 1) = true then some (.none, xs ++ [w]) else none
  | _ => none
theorem down_app {X : Cx} : DOwn X "list.append" gApp := ⟨rAppend, mt_append, fun K ca H p xs ws ys vs us w Q hp r1 r2 e q => by
  unfold gApp at e
  split at e
  · rename_i y
    by_cases hz : szOk (xs.length + 1) = true
    · rw [if_pos hz] at e
      cases e
      obtain ⟨v, rfl, pv⟩ := r2.inv1
      have := szOk_le hz
      exact ⟨p, vs, v, rfl, rfl, hp, by rw [r1.length]; omega, q .non _ (r1.append (.one pv)) (by simp only [Rp])⟩
    · rw [if_neg hz] at e; cases e
  · cases e⟩
def gPop0 (xs ws : List W) : Option (W × List W) := match ws with
  | [] => match xs[xs.length - 1]? with
    | some w => some (w, xs.dropLast)
    | none => none
  | _ => none
theorem down_pop0 {X : Cx} : DOwn X "list.pop" gPop0 := ⟨rPop, mt_pop, fun K ca H p xs ws ys vs us w Q hp r1 r2 e q => by
  unfold gPop0 at e
  split at e
  · split at e
    · rename_i w' ew
      cases e
      simp only [RpAll] at r2
      obtain ⟨v, e1, e2⟩ := r1.get ew
      exact ⟨p, vs, v, rfl, r2, hp, by rw [r1.length]; exact e1, q v _ r1.dropLast e2⟩
    · cases e
  · cases e⟩
theorem RpAll.eraseIdx {K : PySem.W.Frag} {ca : CA} {H : Hp} : ∀ {xs : List W} {vs : List V} (n : Nat), RpAll K ca H xs vs → RpAll K ca H (xs.eraseIdx n) (vs.eraseIdx n)
  | [], vs, n, h => by simp only [RpAll] at h; subst h; simp [RpAll]
  | x :: xs, vs, 0, h => by
    simp only [RpAll] at h
    obtain ⟨v, r, rfl, h1, h2⟩ := h
    exact h2
  | x :: xs, vs, n + 1, h => by
    simp only [RpAll] at h
    obtain ⟨v, r, rfl, h1, h2⟩ := h
    simp only [List.eraseIdx_cons_succ, RpAll]
    exact ⟨v, _, rfl, h1, h2.eraseIdx n⟩
def gPop1 (xs ws : List W) : Option (W × List W) := match ws with
  | [.int i] => if szOk xs.length = true then match ixN xs.length i with
      | some k => match xs[k]? with
        | some w => some (w, xs.eraseIdx k)
        | none => none
      | none => none
    else none
  | _ => none
theorem down_pop1 {X : Cx} : DOwn X "list.pop" gPop1 := ⟨rPopAt, mt_popAt, fun K ca H p xs ws ys vs us w Q hp r1 r2 e q => by
  unfold gPop1 at e
  split at e
  · rename_i i
    by_cases hz : szOk xs.length = true
    · rw [if_pos hz] at e
      split at e
      · rename_i k ek
        split at e
        · rename_i w' ew
          cases e
          obtain ⟨u, rfl, pu⟩ := r2.inv1
          obtain rfl := pu.int
          obtain ⟨v, e1, e2⟩ := r1.get ew
          obtain ⟨h1, h2, h3, h4⟩ := ixN_seq ek
          have hl := szOk_le hz
          have hn := line63
          exact ⟨p, vs, i, k, v, rfl, rfl, hp, by omega, by omega, by rw [r1.length]; exact h1, e1, q v _ (r1.eraseIdx k) e2⟩
        · cases e
      · cases e
    · rw [if_neg hz] at e; cases e
  · cases e⟩
section
variable {D : DC} {Wx : WX} {X : Cx} {e : Expr} {es : List Expr} {me : EM} {l : LM} {i : Nat} {x nm : Str} {id : String} {g : List W → List W → Option (W × List W)} {ppos apos cpos : Pos}
/-- behind the arguments -/
theorem own_of {r : V → List V → Hp → VK → Prop} {σ : L2.St} {H : Hp} {Q : VK} (hr : ∀ (K : PySem.W.Frag) (ca : CA) (H : Hp) (p : Addr) (xs ws ys : List W) (vs us : List V) (w : W) (Q : VK), H p = some (.lst vs) → RpAll K ca H xs vs → RpAll K ca H ws us → g xs ws = some (w, ys) →
    (∀ v vs', RpAll K ca H ys vs' → Rp K ca H w v → Q v (upd H p (.lst vs'))) → r (.ref p) us H Q) (h : RdE D Wx (eOwn i l g) σ H Q) :
    ∃ p vs, σ[i]? = some (some (.ref p)) ∧ H p = some (.lst vs) ∧ RdA D Wx l σ H fun us H2 => r (.ref p) us H2 Q := by
  obtain ⟨ca, ms, r, h⟩ := h
  unfold eOwn at h
  cases ex : ownAt ms.env i with
  | none => rw [ex] at h; exact h.elim
  | some x =>
    cases x with
    | fz w => rw [ex] at h; exact h.elim
    | od kvs => rw [ex] at h; exact h.elim
    | ow xs =>
      rw [ex] at h
      obtain ⟨p, o, hσ, ⟨vs, hp, _⟩, _, _, _⟩ := r.own_at ex
      refine ⟨p, vs, hσ, hp, RdA.bind r h fun ws us ms1 ca1 H1 x1 r1 p1 h1 => ?_⟩
      cases ex1 : ownAt ms1.env i with
      | none => rw [ex1] at h1; exact h1.elim
      | some x =>
        cases x with
        | fz w => rw [ex1] at h1; exact h1.elim
        | od kvs => rw [ex1] at h1; exact h1.elim
        | ow xs1 =>
          rw [ex1] at h1
          obtain ⟨p', o1, hσ1, ⟨vs1, hp1, rv1⟩, _, _, _⟩ := r1.own_at ex1
          rw [hσ] at hσ1
          cases hσ1
          obtain ⟨h2, h3⟩ := ownAt_some ex1
          cases eg : g xs1 ws with
          | none => simp only [eg] at h1; exact h1.elim
          | some wy =>
            obtain ⟨w, ys⟩ := wy
            simp only [eg] at h1
            refine hr D.K ca1 H1 p xs1 ws ys vs1 us w Q hp1 rv1 p1 eg fun v vs' ry pw => ?_
            have kp : Kp H1 (upd H1 p (.lst vs')) := Kp.upd_mut hp1 trivial
            have xx : Ext ca1 H1 ca1 (upd H1 p (.lst vs')) := ⟨kp, List.prefix_refl _⟩
            exact h1 v ca1 _ (x1.trans xx) (r1.own_set h2 h3 hσ ⟨vs', upd_same, RpAll.mono xx _ _ ry⟩ rfl) (Rp.mono xx _ _ pw)
theorem de_own (slot : Slot "list" nm id) (hty : typeOf (.builtin id) = pure (.type "method_descriptor")) (hm : DOwn X id g) (hN : X.N[i]? = some x) (hv : Vis X.env.scope x) (ha : DA D Wx X (e :: es) l)
    (hd : (x == ("__debug__" : Str)) = false := by decide) (hcd : (x == ("__classdict__" : Str)) = false := by decide)
    (hbase : attributeBase (.Name x ppos) nm X.env (eval (.Name x ppos) X.env) = eval (.Name x ppos) X.env := by rfl)
    (hfew : ((backTo cpos (starEach (e :: es) X.env)).all (fun x => !x.1) && (backToKw cpos (keywordEach [] X.env)).all (fun x => x.1.isSome)
      && decide ((e :: es).length + ([] : List Keyword).length + (if ([] : List Keyword).isEmpty then 0 else 1) < 30)) = true := by rfl)
    (hline : (apos.endLine == cpos.line) = true := by rfl) (hs : starEach (e :: es) X.env = (false, eval e X.env) :: starEach es X.env := by rfl) (hplain : (backTo cpos (starEach es X.env)).any (·.1) = false := by rfl) :
    DE D Wx X (.Call (.Attribute (.Name x ppos) nm apos) (e :: es) [] cpos) (eOwn i l g) := by
  obtain ⟨r, hm, hr⟩ := hm
  exact PE.mono (pe_bm F.plainAttrs_list slot hty hm (pe_var hN hv hd hcd) ha hbase hfew hline hs hplain) fun σ H Q h => by
    obtain ⟨p, vs, hσ, hp, h2⟩ := own_of hr h
    exact ⟨.ref p, hσ, .inl ⟨rfl, vs, .of hp⟩, h2⟩
theorem de_own0 (slot : Slot "list" nm id) (hty : typeOf (.builtin id) = pure (.type "method_descriptor")) (hm : DOwn X id g) (hN : X.N[i]? = some x) (hv : Vis X.env.scope x)
    (hd : (x == ("__debug__" : Str)) = false := by decide) (hcd : (x == ("__classdict__" : Str)) = false := by decide)
    (hbase : attributeBase (.Name x ppos) nm X.env (eval (.Name x ppos) X.env) = eval (.Name x ppos) X.env := by rfl) (hline : (apos.endLine == cpos.line) = true := by rfl) :
    DE D Wx X (.Call (.Attribute (.Name x ppos) nm apos) [] [] cpos) (eOwn i aNil g) := by
  obtain ⟨r, hm, hr⟩ := hm
  exact PE.mono (pe_bm0 F.plainAttrs_list slot hty hm (pe_var hN hv hd hcd) hbase hline) fun σ H Q h => by
    obtain ⟨p, vs, hσ, hp, ca, ms, rr, h2⟩ := own_of hr h
    exact ⟨.ref p, hσ, .inl ⟨rfl, vs, .of hp⟩, h2 [] ca H (.refl _ _) rr (by simp only [RpAll])⟩
/-- own.extend([..]), the list new -/
def eExtF (i : Nat) (l : LM) : EM := fun m => match ownAt m.env i with
  | some (.ow _) => (l m).bind fun ws m => match ownAt m.env i with
    | some (.ow xs) => if szOk (xs.length + ws.length) = true then .ok .none { m with env := m.env.set i (some (.ow (xs ++ ws))) } else .bad
    | _ => .bad
  | _ => .bad
theorem de_extF (hN : X.N[i]? = some x) (hv : Vis X.env.scope x) (hf : DF D Wx X e l)
    (hd : (x == ("__debug__" : Str)) = false := by decide) (hcd : (x == ("__classdict__" : Str)) = false := by decide)
    (hbase : attributeBase (.Name x ppos) "extend" X.env (eval (.Name x ppos) X.env) = eval (.Name x ppos) X.env := by rfl)
    (hfew : ((backTo cpos (starEach [e] X.env)).all (fun x => !x.1) && (backToKw cpos (keywordEach [] X.env)).all (fun x => x.1.isSome)
      && decide ([e].length + ([] : List Keyword).length + (if ([] : List Keyword).isEmpty then 0 else 1) < 30)) = true := by rfl)
    (hline : (apos.endLine == cpos.line) = true := by rfl) (hs : starEach [e] X.env = (false, eval e X.env) :: starEach [] X.env := by rfl) :
    DE D Wx X (.Call (.Attribute (.Name x ppos) "extend" apos) [e] [] cpos) (eExtF i l) :=
  PE.mono (pe_bm F.plainAttrs_list F.slot_list_extend F.type_list_extend mt_extend (pe_var hN hv hd hcd) (pa_cons hf pa_nil hs) hbase hfew hline hs rfl) fun σ H Q h => by
    obtain ⟨ca, ms, r, h⟩ := h
    unfold eExtF at h
    cases ex : ownAt ms.env i with
    | none => rw [ex] at h; exact h.elim
    | some x =>
      cases x with
      | fz w => rw [ex] at h; exact h.elim
      | od kvs => rw [ex] at h; exact h.elim
      | ow xs =>
        rw [ex] at h
        obtain ⟨p, o, hσ, ⟨vs, hp, _⟩, _, _, _⟩ := r.own_at ex
        refine ⟨.ref p, hσ, .inl ⟨rfl, vs, .of hp⟩, ca, ms, r, ?_⟩
        cases el : l ms with
        | bad => rw [el] at h; exact h
        | err c fs m => rw [el] at h; exact h
        | ok ws ms1 =>
          rw [el] at h
          have h : Po D Wx σ ca H (match ownAt ms1.env i with
            | some (.ow xs) => if szOk (xs.length + ws.length) = true then .ok .none { ms1 with env := ms1.env.set i (some (.ow (xs ++ ws))) } else .bad
            | _ => .bad) (EQ D σ ca H Q) := h
          cases ex1 : ownAt ms1.env i with
          | none => rw [ex1] at h; exact h.elim
          | some x =>
            cases x with
            | fz w => rw [ex1] at h; exact h.elim
            | od kvs => rw [ex1] at h; exact h.elim
            | ow xs1 =>
              rw [ex1] at h
              by_cases hz : szOk (xs1.length + ws.length) = true
              · simp only [if_pos hz] at h
                refine fun b zs ca1 H1 x1 r1 nb pb => ?_
                obtain ⟨p', o1, hσ1, ⟨vs1, hp1, rv1⟩, _, _, _⟩ := r1.own_at ex1
                rw [hσ] at hσ1
                cases hσ1
                obtain ⟨h2, h3⟩ := ownAt_some ex1
                have g := Same.upd_new (o := HO.lst zs) nb
                have r2 := r1.grow g
                have hp2 := g _ _ hp1
                have rv2 := RpAll.mono (Ext.of_same (ca := ca1) g) _ _ rv1
                have pb2 := RpAll.mono (Ext.of_same (ca := ca1) g) _ _ pb
                have kp : Kp (upd H1 b (.lst zs)) (upd (upd H1 b (.lst zs)) p (.lst (vs1 ++ zs))) := Kp.upd_mut hp2 trivial
                have xx : Ext ca1 (upd H1 b (.lst zs)) ca1 _ := ⟨kp, List.prefix_refl _⟩
                have hzl := szOk_le hz
                refine ⟨p, b, vs1, zs, rfl, rfl, hp2, upd_same, by rw [rv1.length, pb.length]; exact hzl, ?_⟩
                exact h _ ca1 _ ((x1.trans (.of_same g)).trans xx) (r2.own_set h2 h3 hσ ⟨_, upd_same, RpAll.mono xx _ _ (rv2.append pb2)⟩ rfl) (by simp only [Rp])
              · simp only [if_neg hz] at h; exact h.elim
/-! ### an item of an own list, read and written -/
def eIxO (i : Nat) (a : EM) : EM := fun m => match ownAt m.env i with
  | some (.ow _) => (a m).bind fun k m => match ownAt m.env i with
    | some (.ow xs) => match k with
      | .int k => opt (atI xs k) m
      | _ => .bad
    | _ => .bad
  | _ => .bad
theorem de_ixO {pos : Pos} (hN : X.N[i]? = some x) (hv : Vis X.env.scope x) (hb : DE D Wx X e me) (hs : PlainIx e) (hd : (x == ("__debug__" : Str)) = false := by decide) (hcd : (x == ("__classdict__" : Str)) = false := by decide) :
    DE D Wx X (.Subscript (.Name x ppos) e pos) (eIxO i me) :=
  PE.mono (pe_ix ix_list (pe_var hN hv hd hcd) hb hs) fun σ H Q h => by
    obtain ⟨ca, ms, r, h⟩ := h
    unfold eIxO at h
    cases ex : ownAt ms.env i with
    | none => rw [ex] at h; exact h.elim
    | some x =>
      cases x with
      | fz w => rw [ex] at h; exact h.elim
      | od kvs => rw [ex] at h; exact h.elim
      | ow xs =>
        rw [ex] at h
        obtain ⟨p, o, hσ, ⟨vs, hp, _⟩, _, _, _⟩ := r.own_at ex
        refine ⟨.ref p, hσ, RdE.bind r h fun wk k ms1 ca1 H1 x1 r1 p1 h1 => ?_⟩
        cases ex1 : ownAt ms1.env i with
        | none => rw [ex1] at h1; exact h1.elim
        | some x =>
          cases x with
          | fz w => rw [ex1] at h1; exact h1.elim
          | od kvs => rw [ex1] at h1; exact h1.elim
          | ow xs1 =>
            rw [ex1] at h1
            obtain ⟨p', o1, hσ1, ⟨vs1, hp1, rv1⟩, _, _, _⟩ := r1.own_at ex1
            rw [hσ] at hσ1
            cases hσ1
            cases wk with
            | int k =>
              obtain rfl := p1.int
              obtain ⟨w, ew, q⟩ := Po.opt h1
              obtain ⟨v, e1, e2⟩ := rv1.atI ew
              exact ⟨p, vs1, k, v, rfl, rfl, .of hp1, e1, q v ca1 H1 x1 r1 e2⟩
            | _ => exact h1.elim
/-- own[k] = .. -/
def gSetI (i : Nat) (a : EM) : GM := fun w m => match ownAt m.env i with
  | some (.ow _) => match a m with
    | .ok (.int k) m => match ownAt m.env i with
      | some (.ow xs) => match ixN xs.length k with
        | some j => .ok () { m with env := m.env.set i (some (.ow (xs.set j w))) }
        | none => .bad
      | _ => .bad
    | _ => .bad
  | _ => .bad
theorem gSetI_inv {w : W} {m m' : MS} (h : gSetI i me w m = .ok () m') : ∃ xs k m1 xs1 j, ownAt m.env i = some (.ow xs) ∧ me m = .ok (.int k) m1 ∧ ownAt m1.env i = some (.ow xs1) ∧ ixN xs1.length k = some j ∧ m' = { m1 with env := m1.env.set i (some (.ow (xs1.set j w))) } := by
  unfold gSetI at h
  split at h
  · rename_i xs e0
    split at h
    · rename_i k m1 e1
      split at h
      · rename_i xs1 e2
        split at h
        · rename_i j e3
          cases h
          exact ⟨xs, k, m1, xs1, j, e0, e1, e2, e3, rfl⟩
        · cases h
      · cases h
    · cases h
  · cases h
theorem dg_set {pos : Pos} (hN : X.N[i]? = some x) (hv : Vis X.env.scope x) (hb : DE D W0 X e me) (hq : EQt me) (hd : (x == ("__debug__" : Str)) = false := by decide) (hcd : (x == ("__classdict__" : Str)) = false := by decide)
    (ha : ∀ v, assign (.Subscript (.Name x ppos) e pos) X.env v = (do
      let ov ← holding [v] (eval (.Name x ppos) X.env)
      let iv ← holding [v, ov] (eval e X.env)
      standAt pos
      holding [v, ov, iv] (setItem ov iv v)
      release [v, ov, iv] []) := by intro _; rfl) : DG D X (.Subscript (.Name x ppos) e pos) [i] (gSetI i me) :=
  ⟨PG.mono (pg_sub (pe_var hN hv hd hcd) hb set_list ha) fun v σ H Q ⟨ca, ms, w, r, pw, ms', eg, q⟩ => by
    obtain ⟨xs, k, m1, xs1, j, e0, e1, e2, e3, rfl⟩ := gSetI_inv eg
    obtain ⟨p, o, hσ, ⟨vs, hp, _⟩, _, _, _⟩ := r.own_at e0
    refine ⟨.ref p, hσ, RdE.okk r e1 fun kv ca1 H1 x1 r1 p1 => ?_⟩
    obtain rfl := p1.int
    obtain ⟨p', o1, hσ1, ⟨vs1, hp1, rv1⟩, _, _, _⟩ := r1.own_at e2
    rw [hσ] at hσ1
    cases hσ1
    obtain ⟨h2, h3⟩ := ownAt_some e2
    refine ⟨p, vs1, k, j, rfl, rfl, hp1, by rw [rv1.length]; exact e3, ?_⟩
    have kp : Kp H1 (upd H1 p (.lst (vs1.set j v))) := Kp.upd_mut hp1 trivial
    have xx : Ext ca1 H1 ca1 _ := ⟨kp, List.prefix_refl _⟩
    exact q σ ca1 _ rfl (fun _ _ => rfl) (x1.trans xx) (r1.own_set h2 h3 hσ ⟨_, upd_same, RpAll.mono xx _ _ (rv1.set (Rp.mono x1 _ _ pw) j)⟩ rfl),
  fun w m m' eg t ht => by
    obtain ⟨xs, k, m1, xs1, j, e0, e1, e2, e3, rfl⟩ := gSetI_inv eg
    show (m1.env.set i _)[t]? = _
    rw [List.getElem?_set_ne (by simpa using fun z => ht (by simp [z])), hq _ _ _ e1]⟩
end
end DL
namespace DL
open PySem PySem.Spec PyProof.Rows L2

/-! ### several values at once -/
/-- v of that standing, laid on H: Hf -/
def VP (K : PySem.W.Frag) (ca : CA) (H : Hp) (x : Sl) (v : V) (Hf : Hp) : Prop := match x with
  | .fz w => H = Hf ∧ Rp K ca H w v
  | .ow xs => ∃ p vs, v = .ref p ∧ H p = none ∧ RpAll K ca H xs vs ∧ Hf = upd H p (.lst vs)
  | .od kvs => ∃ p ps, v = .ref p ∧ H p = none ∧ RpKv K ca H kvs ps ∧ Hf = upd H p (.dK ps)
theorem VQ.of {D : DC} {σ : L2.St} {ca : CA} {H : Hp} {Q : VK} {x : Sl} {ms1 : MS} (q : ∀ v ca' H' Hf, Ext ca H ca' H' → Rel D ca' σ H' ms1 → VP D.K ca' H' x v Hf → Q v Hf) : VQ D σ ca H Q x ms1 := by
  cases x with
  | fz w => exact fun v ca' H' x r p => q v ca' H' H' x r ⟨rfl, p⟩
  | ow xs => exact fun p vs ca' H' x r np rp => q _ ca' H' _ x r ⟨p, vs, rfl, np, rp, rfl⟩
  | od xs => exact fun p vs ca' H' x r np rp => q _ ca' H' _ x r ⟨p, vs, rfl, np, rp, rfl⟩
section
variable {D : DC} {ca : CA} {σ : L2.St} {H Hf : Hp} {ms : MS} {x : Sl} {v : V}
theorem VP.same {K : PySem.W.Frag} (h : VP K ca H x v Hf) : Same H Hf := by
  cases x with
  | fz w => obtain ⟨rfl, _⟩ := h; exact fun _ _ e => e
  | ow xs => obtain ⟨p, vs, _, np, _, rfl⟩ := h; exact Same.upd_new np
  | od xs => obtain ⟨p, vs, _, np, _, rfl⟩ := h; exact Same.upd_new np
theorem VP.put (r : Rel D ca σ H ms) (h : VP D.K ca H x v Hf) (i : Nat) : Rel D ca (σ.set i (some v)) Hf { ms with env := ms.env.set i (some x) } := by
  cases x with
  | fz w => obtain ⟨rfl, p⟩ := h; exact r.set p i
  | ow xs => obtain ⟨p, vs, rfl, np, rp, rfl⟩ := h; exact r.own_new np ⟨vs, upd_same, RpAll.mono (.of_same (Same.upd_new np)) _ _ rp⟩ rfl
  | od xs => obtain ⟨p, vs, rfl, np, rp, rfl⟩ := h; exact r.own_new np ⟨vs, upd_same, RpKv.mono (.of_same (Same.upd_new np)) _ _ rp⟩ rfl
/-- it is kept aside while more runs -/
theorem VP.aside (r : Rel D ca σ H ms) (h : VP D.K ca H x v Hf) : ∃ D1 : DC, D1.K = D.K ∧ D1.st = D.st ∧ Rel D1 ca σ Hf ms ∧ (∀ ca' σ' H' ms', Rel D1 ca' σ' H' ms' → Rel D ca' σ' H' ms') ∧
    ∀ ca' H' ms', Ext ca Hf ca' H' → Rel D1 ca' σ H' ms' → ∃ Hb, Ext ca H ca' Hb ∧ Rel D ca' σ Hb ms' ∧ VP D.K ca' Hb x v H' := by
  have own : ∀ {p : Addr} {o : HO}, H p = none → Mut (some o) → ∃ D1 : DC, D1.K = D.K ∧ D1.st = D.st ∧ Rel D1 ca σ (upd H p o) ms ∧ (∀ ca' σ' H' ms', Rel D1 ca' σ' H' ms' → Rel D ca' σ' H' ms') ∧
      ∀ ca' H' ms', Ext ca (upd H p o) ca' H' → Rel D1 ca' σ H' ms' → Ext ca H ca' (erase H' p) ∧ Rel D ca' σ (erase H' p) ms' ∧ upd (erase H' p) p o = H' := fun {p o} np mu => by
    have h0 := r.h0_none np
    have hc0 := r.not_ca0 np
    refine ⟨D.guard p o, rfl, rfl, r.guard np, fun ca' σ' H' ms' r' => r'.unguard h0 hc0, fun ca' H' ms' x' r' => ?_⟩
    have hp := r'.at_guard hc0
    exact ⟨⟨(Kp.upd_new np).trans (x'.kp.trans (Kp.erase hp mu)), x'.pre⟩, r'.ungrow hc0 h0 mu, upd_erase hp⟩
  cases x with
  | fz w =>
    obtain ⟨rfl, p⟩ := h
    exact ⟨D, rfl, rfl, r, fun _ _ _ _ r' => r', fun ca' H' ms' x' r' => ⟨H', x', r', rfl, Rp.mono x' _ _ p⟩⟩
  | ow xs =>
    obtain ⟨p, vs, rfl, np, rp, rfl⟩ := h
    obtain ⟨D1, e, eS, r1, un, k⟩ := own (o := .lst vs) np trivial
    refine ⟨D1, e, eS, r1, un, fun ca' H' ms' x' r' => ?_⟩
    obtain ⟨k1, k2, k3⟩ := k ca' H' ms' x' r'
    exact ⟨_, k1, k2, p, vs, rfl, erase_same, RpAll.mono k1 _ _ rp, k3.symm⟩
  | od xs =>
    obtain ⟨p, vs, rfl, np, rp, rfl⟩ := h
    obtain ⟨D1, e, eS, r1, un, k⟩ := own (o := .dK vs) np trivial
    refine ⟨D1, e, eS, r1, un, fun ca' H' ms' x' r' => ?_⟩
    obtain ⟨k1, k2, k3⟩ := k ca' H' ms' x' r'
    exact ⟨_, k1, k2, p, vs, rfl, erase_same, RpKv.mono k1 _ _ rp, k3.symm⟩
end
def VPs (K : PySem.W.Frag) (ca : CA) (H : Hp) : List Sl → List V → Hp → Prop
  | [], vs, Hf => vs = [] ∧ H = Hf
  | x :: xs, vs, Hf => ∃ v r Hm, vs = v :: r ∧ VP K ca H x v Hm ∧ VPs K ca Hm xs r Hf
def evVs : List VM → MS → R (List Sl)
  | [], m => .ok [] m
  | v :: vs, m => (v m).bind fun x m => (evVs vs m).bind fun xs m => .ok (x :: xs) m
def vAny_ (D0 : DC) (Wx : WX) (m : VM) : TE := fun σ H Q => ∃ D : DC, D.K = D0.K ∧ D.st = D0.st ∧ RdV D Wx m σ H Q
def tVs (D0 : DC) (Wx : WX) : List VM → TA
  | [] => tNil
  | m :: ms => tCons (vAny_ D0 Wx m) (tVs D0 Wx ms)
theorem Po.other {D D1 : DC} {Wx : WX} {σ : L2.St} {ca : CA} {H : Hp} {α : Type} {r : R α} {P : α → MS → Prop} (hK : D1.K = D.K) (un : ∀ ca' σ' H' ms', Rel D1 ca' σ' H' ms' → Rel D ca' σ' H' ms') (h : Po D Wx σ ca H r P) : Po D1 Wx σ ca H r P := by
  cases r with
  | ok a m => exact h
  | err c fs m => exact fun cls d σ' ca' H' x rl e => h cls d σ' ca' H' x (un _ _ _ _ rl) (by rw [← hK]; exact e)
  | bad => exact h
theorem vs_of {D0 : DC} {Wx : WX} : ∀ (l : List VM) {D : DC} {σ : L2.St} {ca : CA} {H : Hp} {ms : MS} {P : List Sl → MS → Prop} {Q : List V → Hp → Prop}, D.K = D0.K → D.st = D0.st → Rel D ca σ H ms → Po D Wx σ ca H (evVs l ms) P →
    (∀ ys vs ms' ca' H' Hf, Ext ca H ca' H' → Rel D ca' σ H' ms' → VPs D0.K ca' H' ys vs Hf → P ys ms' → Q vs Hf) → tVs D0 Wx l σ H Q
  | [], D, σ, ca, H, ms, P, Q, hK, hS, r, h, q => q [] [] ms ca H H (.refl _ _) r ⟨rfl, rfl⟩ h
  | m :: l, D, σ, ca, H, ms, P, Q, hK, hS, r, h, q => by
    refine ⟨D, hK, hS, ?_⟩
    unfold evVs at h
    refine RdV.bind r h fun x ms1 h1 => VQ.of fun v ca1 H1 Hf1 x1 r1 p1 => ?_
    obtain ⟨D1, eK, eS, r2, un, back⟩ := VP.aside r1 p1
    have g := p1.same
    have h2 : Po D1 Wx σ ca1 Hf1 (evVs l ms1) (fun xs m => P (x :: xs) m) := ((h1.ext (x1.trans (.of_same g))).ok).other eK un
    refine vs_of l (eK.trans hK) (eS.trans hS) r2 h2 fun ys vs ms' ca' H' Hf x' r' pp hp => ?_
    obtain ⟨Hb, xb, rb, pb⟩ := back ca' H' ms' x' r'
    exact q (x :: ys) (v :: vs) ms' ca' Hb Hf (x1.trans xb) rb ⟨v, vs, H', rfl, by rw [← hK]; exact pb, pp⟩ hp
def putE : List Nat → List Sl → List (Option Sl) → List (Option Sl)
  | i :: is, x :: xs, env => putE is xs (env.set i (some x))
  | _, _, env => env
def putS : List Nat → List V → L2.St → L2.St
  | i :: is, x :: xs, env => putS is xs (env.set i (some x))
  | _, _, env => env
theorem VPs.put {D : DC} {ca : CA} : ∀ (is : List Nat) (xs : List Sl) (vs : List V) {σ : L2.St} {H Hf : Hp} {ms : MS}, is.length = xs.length → Rel D ca σ H ms → VPs D.K ca H xs vs Hf → Rel D ca (putS is vs σ) Hf { ms with env := putE is xs ms.env }
  | [], [], vs, σ, H, Hf, ms, _, r, h => by
    obtain ⟨rfl, rfl⟩ := h
    exact r
  | i :: is, x :: xs, vs, σ, H, Hf, ms, hl, r, h => by
    obtain ⟨v, t, Hm, rfl, h1, h2⟩ := h
    exact VPs.put is xs t (by simpa using hl) (VP.put r h1 i) h2
theorem VPs.same {K : PySem.W.Frag} {ca : CA} : ∀ {xs : List Sl} {vs : List V} {H Hf : Hp}, VPs K ca H xs vs Hf → Same H Hf
  | [], vs, H, Hf, h => by obtain ⟨_, rfl⟩ := h; exact fun _ _ e => e
  | x :: xs, vs, H, Hf, h => by
    obtain ⟨v, t, Hm, rfl, h1, h2⟩ := h
    exact fun b u e => VPs.same h2 b u (h1.same b u e)
theorem VPs.len {K : PySem.W.Frag} {ca : CA} : ∀ {xs : List Sl} {vs : List V} {H Hf : Hp}, VPs K ca H xs vs Hf → vs.length = xs.length
  | [], vs, H, Hf, h => by obtain ⟨rfl, rfl⟩ := h; rfl
  | x :: xs, vs, H, Hf, h => by
    obtain ⟨v, t, Hm, rfl, h1, h2⟩ := h
    rw [List.length_cons, List.length_cons, VPs.len h2]
theorem evVs_len : ∀ {l : List VM} {m m' : MS} {ys : List Sl}, evVs l m = .ok ys m' → ys.length = l.length
  | [], m, m', ys, h => by cases h; rfl
  | v :: l, m, m', ys, h => by
    unfold evVs at h
    cases e1 : v m with
    | ok x m1 =>
      rw [e1] at h
      have h : ((evVs l m1).bind fun xs m => R.ok (x :: xs) m) = .ok ys m' := h
      cases e2 : evVs l m1 with
      | ok xs m2 =>
        rw [e2] at h
        cases h
        rw [List.length_cons, List.length_cons, evVs_len e2]
      | err c fs m2 => rw [e2] at h; cases h
      | bad => rw [e2] at h; cases h
    | err c fs m1 => rw [e1] at h; cases h
    | bad => rw [e1] at h; cases h
/-- a, b, .. = x, y, .. -/
def sPar (is : List Nat) (l : List VM) : SM := fun m => (evVs l m).bind fun xs m => .ok .next { m with env := putE is xs m.env }
theorem par_of {D : DC} {Wx : WX} {σ : L2.St} {H : Hp} {Q : Ends} {is : List Nat} {l : List VM} (hl : is.length = l.length) (h : RdS D Wx (sPar is l) Q σ H) :
    tVs D Wx l σ H fun vs Hf => vs.length = l.length ∧ ∀ H2, Same Hf H2 → Q.nx (putS is vs σ) H2 := by
  obtain ⟨ca, ms, r, h⟩ := h.inv
  have h2 : Po D Wx σ ca H (evVs l ms) (fun ys ms' => ys.length = l.length ∧ ∀ σ' ca' H', Ext ca H ca' H' → Rel D ca' σ' H' { ms' with env := putE is ys ms'.env } → Q.nx σ' H') := by
    unfold sPar at h
    cases e : evVs l ms with
    | ok ys ms' => rw [e] at h; exact ⟨evVs_len e, h⟩
    | err c fs m => rw [e] at h; exact h
    | bad => rw [e] at h; exact h
  refine vs_of l rfl rfl r h2 fun ys vs ms' ca' H' Hf x' r' pp hp => ⟨by rw [pp.len, hp.1], fun H2 g => ?_⟩
  exact hp.2 _ ca' H2 (x'.trans (.of_same fun b u e => g b u (pp.same b u e))) ((VPs.put is ys vs (by rw [hl, hp.1]) r' pp).grow g)
theorem VQ.imp {D : DC} {σ : L2.St} {ca : CA} {H : Hp} {Q Q' : VK} (f : ∀ v H, Q v H → Q' v H) : ∀ {x : Sl} {ms1 : MS}, VQ D σ ca H Q x ms1 → VQ D σ ca H Q' x ms1
  | .fz w, _, h => fun v ca' H' x r p => f _ _ (h v ca' H' x r p)
  | .ow w, _, h => fun p vs ca' H' x r np rp => f _ _ (h p vs ca' H' x r np rp)
  | .od w, _, h => fun p vs ca' H' x r np rp => f _ _ (h p vs ca' H' x r np rp)
theorem tVs_imp {D0 : DC} {Wx : WX} : ∀ {l : List VM} {σ : L2.St} {H : Hp} {Q Q' : List V → Hp → Prop}, (∀ v H, Q v H → Q' v H) → tVs D0 Wx l σ H Q → tVs D0 Wx l σ H Q'
  | [], σ, H, Q, Q', f, h => f _ _ h
  | m :: l, σ, H, Q, Q', f, ⟨D, hK, hS, ca, ms, r, h⟩ => ⟨D, hK, hS, ca, ms, r, h.imp fun x m' q => VQ.imp (fun v H h => tVs_imp (fun vs H q => f _ _ q) h) q⟩
section
variable {D : DC} {Wx : WX} {X : Cx} {e1 e2 e3 : Expr} {m1 m2 m3 : VM} {i j l : Nat} {x y z : Str} {px py pz pt pos : Pos} {kt k2 : Nat} {pt2 : Pos}
theorem pe_any {e : Expr} {m : VM} (hK : D.K = X.K) (h : ∀ D' : DC, D'.K = X.K → D'.st = D.st → DV D' Wx X e m) : PE X e (vAny_ D Wx m) := ⟨fun pins s σ H Q I ⟨D', hD, hS, hw⟩ => (h D' (hD.trans hK) hS).run pins s σ H Q I hw⟩
theorem ds_par2 (hK : D.K = X.K) (hc : X.calm = true) (hN : X.N.Nodup) (hi : X.N[i]? = some x) (hj : X.N[j]? = some y) (hij : i ≠ j) (hx : X.env.scope.names.lookup x = some .local) (hy : X.env.scope.names.lookup y = some .local)
    (h1 : ∀ D' : DC, D'.K = X.K → D'.st = D.st → DV D' Wx X e1 m1) (h2 : ∀ D' : DC, D'.K = X.K → D'.st = D.st → DV D' Wx X e2 m2) (hw : swappedStores [.Tuple [.Name x px, .Name y py] kt pt] (.Tuple [e1, e2] k2 pt2) X.env = pure (some [x, y]))
    (hs1 : starEach [e1, e2] X.env = (false, eval e1 X.env) :: starEach [e2] X.env := by rfl) (hs2 : starEach [e2] X.env = (false, eval e2 X.env) :: starEach [] X.env := by rfl)
    (hs : swapsWithSole [.Tuple [.Name x px, .Name y py] kt pt] (.Tuple [e1, e2] k2 pt2) pos.line X.env = pure false := by rfl) :
    DS D Wx X (.Assign [.Tuple [.Name x px, .Name y py] kt pt] (.Tuple [e1, e2] k2 pt2) pos) (sPar [i, j] [m1, m2]) :=
  PS.mono (ps_par hc hN hi hj hij hx hy (pa_cons (pe_any hK h1) (pa_cons (pe_any hK h2) pa_nil hs2) hs1) hw hs) fun Q σ H h => by
    have h := par_of rfl h
    refine tVs_imp (fun vs H ⟨e, q⟩ => ?_) h
    match vs, e with
    | [v, w], _ => exact ⟨v, w, rfl, q H fun _ _ h => h⟩
theorem ds_par3 (hK : D.K = X.K) (hc : X.calm = true) (hN : X.N.Nodup) (hi : X.N[i]? = some x) (hj : X.N[j]? = some y) (hl : X.N[l]? = some z) (hij : i ≠ j) (hil : i ≠ l) (hjl : j ≠ l) (hx : X.env.scope.names.lookup x = some .local) (hy : X.env.scope.names.lookup y = some .local) (hz : X.env.scope.names.lookup z = some .local)
    (h1 : ∀ D' : DC, D'.K = X.K → D'.st = D.st → DV D' Wx X e1 m1) (h2 : ∀ D' : DC, D'.K = X.K → D'.st = D.st → DV D' Wx X e2 m2) (h3 : ∀ D' : DC, D'.K = X.K → D'.st = D.st → DV D' Wx X e3 m3) (hw : swappedStores [.Tuple [.Name x px, .Name y py, .Name z pz] kt pt] (.Tuple [e1, e2, e3] k2 pt2) X.env = pure (some [x, y, z]))
    (hs1 : starEach [e1, e2, e3] X.env = (false, eval e1 X.env) :: starEach [e2, e3] X.env := by rfl) (hs2 : starEach [e2, e3] X.env = (false, eval e2 X.env) :: starEach [e3] X.env := by rfl) (hs3 : starEach [e3] X.env = (false, eval e3 X.env) :: starEach [] X.env := by rfl)
    (hs : swapsWithSole [.Tuple [.Name x px, .Name y py, .Name z pz] kt pt] (.Tuple [e1, e2, e3] k2 pt2) pos.line X.env = pure false := by rfl) :
    DS D Wx X (.Assign [.Tuple [.Name x px, .Name y py, .Name z pz] kt pt] (.Tuple [e1, e2, e3] k2 pt2) pos) (sPar [i, j, l] [m1, m2, m3]) :=
  PS.mono (ps_par3 hc hN hi hj hl hij hil hjl hx hy hz (pa_cons (pe_any hK h1) (pa_cons (pe_any hK h2) (pa_cons (pe_any hK h3) pa_nil hs3) hs2) hs1) hw hs) fun Q σ H h => by
    have h := par_of rfl h
    refine tVs_imp (fun vs H ⟨e, q⟩ => ?_) h
    match vs, e with
    | [u, v, w], _ => exact ⟨u, v, w, rfl, q H fun _ _ h => h⟩
/-- the same by way of a tuple -/
theorem ds_parT2 (hK : D.K = X.K) (hc : X.calm = true) (hN : X.N.Nodup) (hi : X.N[i]? = some x) (hj : X.N[j]? = some y) (hx : Loc X.env.scope x) (hy : Loc X.env.scope y)
    (h1 : ∀ D' : DC, D'.K = X.K → D'.st = D.st → DV D' Wx X e1 m1) (h2 : ∀ D' : DC, D'.K = X.K → D'.st = D.st → DV D' Wx X e2 m2) (fx : X.fn x = true ∨ X.env.scope.names.lookup x = some .local := by first | exact .inl rfl | exact .inr rfl | assumption) (fy : X.fn y = true ∨ X.env.scope.names.lookup y = some .local := by first | exact .inl rfl | exact .inr rfl | assumption)
    (hw : swappedStores [.Tuple [.Name x px, .Name y py] kt pt] (.Tuple [e1, e2] k2 pt2) X.env = pure none := by rfl)
    (hs1 : starEach [e1, e2] X.env = (false, eval e1 X.env) :: starEach [e2] X.env := by rfl) (hs2 : starEach [e2] X.env = (false, eval e2 X.env) :: starEach [] X.env := by rfl)
    (hs : swapsWithSole [.Tuple [.Name x px, .Name y py] kt pt] (.Tuple [e1, e2] k2 pt2) pos.line X.env = pure false := by rfl)
    (ha : (assignEach [.Tuple [.Name x px, .Name y py] kt pt] X.env).map (·.2) = [assign (.Tuple [.Name x px, .Name y py] kt pt) X.env] := by rfl) :
    DS D Wx X (.Assign [.Tuple [.Name x px, .Name y py] kt pt] (.Tuple [e1, e2] k2 pt2) pos) (sPar [i, j] [m1, m2]) :=
  PS.mono (ps_asg (pe_tup (pa_cons (pe_any hK h1) (pa_cons (pe_any hK h2) pa_nil hs2) hs1)) (pg_tup (n := 2) hc (pgs_cons (pg_name hN hi hx fx) (pgs_cons (pg_name hN hj hy fy) pgs_nil))) hs hw ha) fun Q σ H h => by
    have h := par_of rfl h
    refine tVs_imp (fun vs H ⟨e, q⟩ => ?_) h
    match vs, e with
    | [v, w], _ =>
      have hz : (2 : Nat) ≤ sizeLine := by rw [sizeLine_eq]; decide
      exact ⟨hz, fun p np => ⟨p, _, rfl, .of upd_same, rfl, v, _, rfl, w, _, rfl, rfl, q _ (Same.upd_new np)⟩⟩
theorem ds_parT3 (hK : D.K = X.K) (hc : X.calm = true) (hN : X.N.Nodup) (hi : X.N[i]? = some x) (hj : X.N[j]? = some y) (hl : X.N[l]? = some z) (hx : Loc X.env.scope x) (hy : Loc X.env.scope y) (hz : Loc X.env.scope z)
    (h1 : ∀ D' : DC, D'.K = X.K → D'.st = D.st → DV D' Wx X e1 m1) (h2 : ∀ D' : DC, D'.K = X.K → D'.st = D.st → DV D' Wx X e2 m2) (h3 : ∀ D' : DC, D'.K = X.K → D'.st = D.st → DV D' Wx X e3 m3) (fx : X.fn x = true ∨ X.env.scope.names.lookup x = some .local := by first | exact .inl rfl | exact .inr rfl | assumption) (fy : X.fn y = true ∨ X.env.scope.names.lookup y = some .local := by first | exact .inl rfl | exact .inr rfl | assumption)
    (fz : X.fn z = true ∨ X.env.scope.names.lookup z = some .local := by first | exact .inl rfl | exact .inr rfl | assumption)
    (hw : swappedStores [.Tuple [.Name x px, .Name y py, .Name z pz] kt pt] (.Tuple [e1, e2, e3] k2 pt2) X.env = pure none := by rfl)
    (hs1 : starEach [e1, e2, e3] X.env = (false, eval e1 X.env) :: starEach [e2, e3] X.env := by rfl) (hs2 : starEach [e2, e3] X.env = (false, eval e2 X.env) :: starEach [e3] X.env := by rfl) (hs3 : starEach [e3] X.env = (false, eval e3 X.env) :: starEach [] X.env := by rfl)
    (hs : swapsWithSole [.Tuple [.Name x px, .Name y py, .Name z pz] kt pt] (.Tuple [e1, e2, e3] k2 pt2) pos.line X.env = pure false := by rfl)
    (ha : (assignEach [.Tuple [.Name x px, .Name y py, .Name z pz] kt pt] X.env).map (·.2) = [assign (.Tuple [.Name x px, .Name y py, .Name z pz] kt pt) X.env] := by rfl) :
    DS D Wx X (.Assign [.Tuple [.Name x px, .Name y py, .Name z pz] kt pt] (.Tuple [e1, e2, e3] k2 pt2) pos) (sPar [i, j, l] [m1, m2, m3]) :=
  PS.mono (ps_asg (pe_tup (pa_cons (pe_any hK h1) (pa_cons (pe_any hK h2) (pa_cons (pe_any hK h3) pa_nil hs3) hs2) hs1)) (pg_tup (n := 3) hc (pgs_cons (pg_name hN hi hx fx) (pgs_cons (pg_name hN hj hy fy) (pgs_cons (pg_name hN hl hz fz) pgs_nil)))) hs hw ha) fun Q σ H h => by
    have h := par_of rfl h
    refine tVs_imp (fun vs H ⟨e, q⟩ => ?_) h
    match vs, e with
    | [u, v, w], _ =>
      have hz : (3 : Nat) ≤ sizeLine := by rw [sizeLine_eq]; decide
      exact ⟨hz, fun p np => ⟨p, _, rfl, .of upd_same, rfl, u, _, rfl, v, _, rfl, w, _, rfl, rfl, q _ (Same.upd_new np)⟩⟩
end
end DL
namespace DL
open PySem PySem.Spec PyProof.Rows L2

/-! ### what a def promises -/
abbrev FM := List W → List Cell → R W
/-- the base of a call -/
def cb (K : PySem.W.Frag) (H : Hp) (ca : CA) (st : Bool) : DC := ⟨K, H, ca, st⟩
def callP (K : PySem.W.Frag) (st : Bool) (F : FM) (n : Nat) : Sp := fun vs H Q E => vs.length = n ∧ ∃ ca cs ws, Rel (cb K H ca st) ca [] H ⟨[], cs⟩ ∧ RpAll K ca H ws vs ∧
  Po (cb K H ca st) (fun cls d _ H' => E cls d H') [] ca H (F ws cs) (fun w m => ∀ v ca' H', Ext ca H ca' H' → Rel (cb K H ca st) ca' [] H' ⟨[], m.cells⟩ → Rp K ca' H' w v → Q v H')
/-- the mirror of a def's body: n names in all -/
def runB (n : Nat) (body : SM) : FM := fun ws cs => match body ⟨ws.map (fun w => some (.fz w)) ++ List.replicate (n - ws.length) none, cs⟩ with
  | .ok (.ret w) m => .ok w ⟨[], m.cells⟩
  | .ok .next m => .ok .none ⟨[], m.cells⟩
  | .ok .brk _ => .bad
  | .ok .cont _ => .bad
  | .err c fs m => .err c fs ⟨[], m.cells⟩
  | .bad => .bad
section
variable {D : DC} {ca : CA} {σ : L2.St} {H : Hp} {ms : MS}
theorem Rel.drop (r : Rel D ca σ H ms) : Rel D ca [] H ⟨[], ms.cells⟩ :=
  ⟨r.len, r.cells, r.nd, r.pre, r.fr, r.new, rfl, fun i x e => by simp at e, fun i j v _ e => by simp [Sl.isOwn] at e, r.c0, fun i p e => by simp [Sl.isOwn] at e⟩
theorem Rel.start {cs : List Cell} {N : List Str} {ws : List W} {vs : List V} (r : Rel D ca [] H ⟨[], cs⟩) (h : RpAll D.K ca H ws vs) : Rel D ca (L2.start N vs) H ⟨ws.map (fun w => some (.fz w)) ++ List.replicate (N.length - ws.length) none, cs⟩ := by
  have hl := h.length
  have get : ∀ (i : Nat) (x : Sl), (ws.map (fun w => some (Sl.fz w)) ++ List.replicate (N.length - ws.length) none)[i]? = some (some x) → ∃ w, ws[i]? = some w ∧ x = .fz w := fun i x e => by
    by_cases hi : i < ws.length
    · rw [List.getElem?_append_left (by simpa using hi), List.getElem?_map] at e
      cases e2 : ws[i]? with
      | none => rw [e2] at e; cases e
      | some w => rw [e2] at e; cases e; exact ⟨w, rfl, rfl⟩
    · rw [List.getElem?_append_right (by simpa using hi), List.getElem?_replicate] at e
      split at e <;> cases e
  refine ⟨r.len, r.cells, r.nd, r.pre, r.fr, r.new, by simp [L2.start, hl], fun i x e => ?_, fun i j v _ e => ?_, r.c0, fun i p e => ?_⟩
  · obtain ⟨w, e1, rfl⟩ := get i x e
    obtain ⟨v, e2, p⟩ := h.get e1
    refine ⟨v, ?_, p⟩
    unfold L2.start
    have hi : i < vs.length := by
      rcases Nat.lt_or_ge i vs.length with h | h
      · exact h
      · rw [List.getElem?_eq_none h] at e2; cases e2
    rw [List.getElem?_append_left (by simpa using hi), List.getElem?_map, e2]
    rfl
  · obtain ⟨x, hx⟩ := isOwn_some e
    obtain ⟨w, _, rfl⟩ := get i x hx
    have e : Sl.isOwn (ws.map (fun w => some (Sl.fz w)) ++ List.replicate (N.length - ws.length) none)[i]? = true := e
    have hx : (ws.map (fun w => some (Sl.fz w)) ++ List.replicate (N.length - ws.length) none)[i]? = some (some (.fz w)) := hx
    rw [hx] at e
    cases e
  · obtain ⟨x, hx⟩ := isOwn_some e
    obtain ⟨w, _, rfl⟩ := get i x hx
    have e : Sl.isOwn (ws.map (fun w => some (Sl.fz w)) ++ List.replicate (N.length - ws.length) none)[i]? = true := e
    have hx : (ws.map (fun w => some (Sl.fz w)) ++ List.replicate (N.length - ws.length) none)[i]? = some (some (.fz w)) := hx
    rw [hx] at e
    cases e
/-- a cell is neither a tuple nor frozen -/
theorem CellAt.kind {K : PySem.W.Frag} : ∀ {c : Cell} {as : List Addr}, CellAt K ca H c as → ∀ b ∈ as, ∀ o, H b = some o → (∀ xs, o ≠ .tup xs) ∧ ∀ od u, o ≠ .frz od u
  | .draw _ _ _ _, _, ⟨s, c, l, e, h1, h2, h3⟩, b, hb, o, ho => by
    subst e
    have e : b = s ∨ b = c ∨ b = l := by simpa using hb
    rcases e with rfl | rfl | rfl
    · rw [h1] at ho; cases ho; exact ⟨(fun _ z => nomatch z), (fun _ _ z => nomatch z)⟩
    · rw [h2] at ho; cases ho; exact ⟨(fun _ z => nomatch z), (fun _ _ z => nomatch z)⟩
    · rw [h3] at ho; cases ho; exact ⟨(fun _ z => nomatch z), (fun _ _ z => nomatch z)⟩
  | .inst _ _, _, ⟨x, dx, fs', e, h1, h2, _⟩, b, hb, o, ho => by
    subst e
    have e : b = x ∨ b = dx := by simpa using hb
    rcases e with rfl | rfl
    · rw [h1] at ho; cases ho; exact ⟨(fun _ z => nomatch z), (fun _ _ z => nomatch z)⟩
    · rw [h2] at ho; cases ho; exact ⟨(fun _ z => nomatch z), (fun _ _ z => nomatch z)⟩
theorem Rel.cell_kind (r : Rel D ca σ H ms) (st : D.st = true) {b : Addr} (h : b ∈ ca.flatten) {o : HO} (ho : H b = some o) : (∀ xs, o ≠ .tup xs) ∧ ∀ od u, o ≠ .frz od u := by
  obtain ⟨k, as, e, hb⟩ := mem_flat h
  have hl := r.len
  rw [if_pos st] at hl
  have hk : k < ca.length := by
    rcases Nat.lt_or_ge k ca.length with h | h
    · exact h
    · rw [List.getElem?_eq_none h] at e; cases e
  have hk2 : k < ms.cells.length := by omega
  exact (r.cells k ms.cells[k] as (by simp [hk2]) e).kind b hb o ho
/-- from the callee's side: the heap has only grown, but for the cells -/
theorem callee_ext {K : PySem.W.Frag} {st : Bool} {ca' : CA} {H' : Hp} {cs cs' : List Cell} {σ' : L2.St} {env' : List (Option Sl)} (r : Rel (cb K H ca st) ca [] H ⟨[], cs⟩) (r' : Rel (cb K H ca st) ca' σ' H' ⟨env', cs'⟩) : Ext ca H ca' H' := by
  refine ⟨⟨fun b xs e => ?_, fun b o u e => ?_⟩, r'.pre⟩
  · exact r'.fr b _ e fun s hm => (r.cell_kind s hm e).1 xs rfl
  · exact r'.fr b _ e fun s hm => (r.cell_kind s hm e).2 o u rfl
/-- the base of a call is laid -/
theorem Rel.base (r : Rel D ca σ H ms) {st : Bool} (hst : st = true → D.st = true) : Rel (cb D.K H ca st) ca [] H ⟨[], if st = true then ms.cells else []⟩ := by
  have e0 : (ca.drop ca.length).flatten = [] := by simp
  refine ⟨?_, fun k c as e1 e2 => ?_, r.nd, List.prefix_refl _, fun b o e _ => e, fun b hb => ?_, rfl, fun i x e => by simp at e, fun i j v _ e => by simp [Sl.isOwn] at e, fun b hb => ?_, fun i p e => by simp [Sl.isOwn] at e⟩
  · cases st with
    | true =>
      have hl := r.len
      rw [if_pos (hst rfl)] at hl
      exact hl
    | false => exact ⟨rfl, rfl⟩
  · cases st with
    | true => exact r.cells k c as e1 e2
    | false => simp at e1
  · have hb : b ∈ (ca.drop ca.length).flatten := hb
    rw [e0] at hb
    cases hb
  · by_cases s : D.st = true
    · exact r.cell_some s hb
    · have hl := r.len
      rw [if_neg s] at hl
      have hb : b ∈ ca.flatten := hb
      rw [hl.2] at hb
      obtain ⟨o, e⟩ := r.c0 b hb
      exact ⟨o, r.fr b o e fun z => absurd z s⟩
/-- behind a call -/
theorem Rel.behind (r : Rel D ca σ H ms) {st : Bool} (hst : st = true → D.st = true) {ca' : CA} {H' : Hp} {σ' : L2.St} {m' : MS} (r' : Rel (cb D.K H ca st) ca' σ' H' m') :
    Rel D ca' σ H' { ms with cells := if st = true then m'.cells else ms.cells } := by
  have x : Ext ca H ca' H' := callee_ext (r.base hst) r'
  have same : ∀ b o, H b = some o → b ∉ ca.flatten → H' b = some o := fun b o e hn => r'.fr b o e fun _ => hn
  refine ⟨?_, fun k c as e1 e2 => ?_, r'.nd, r.pre.trans r'.pre, fun b o e hn => ?_, fun b hb => ?_, r.slen, fun i y e => ?_, r.sep, r.c0, fun i p e1 e2 hm => ?_⟩
  · cases st with
    | true =>
      have h1 := hst rfl
      have hl := r'.len
      rw [if_pos (show (cb D.K H ca true).st = true from rfl)] at hl
      rw [if_pos h1]
      exact hl
    | false =>
      have hl := r'.len
      rw [if_neg (show ¬ (cb D.K H ca false).st = true from Bool.false_ne_true)] at hl
      have e : ca' = ca := hl.2
      rw [e]
      exact r.len
  · cases st with
    | true => exact r'.cells k c as e1 e2
    | false =>
      have hl := r'.len
      rw [if_neg (show ¬ (cb D.K H ca false).st = true from Bool.false_ne_true)] at hl
      have e : ca' = ca := hl.2
      subst e
      exact (r.cells k c as e1 e2).grow fun b o h => r'.fr b o h fun z => nomatch z
  · exact r'.fr b o (r.fr b o e hn) fun s hm => by
      rcases r.ca_split hm with h | h
      · exact hn (hst s) h
      · have := r.new b h
        rw [e] at this; cases this
  · obtain ⟨t, et⟩ := r'.pre
    have et : ca ++ t = ca' := et
    obtain ⟨t0, e0⟩ := r.pre
    have hl : D.ca0.length ≤ ca.length := by rw [← e0]; simp
    rw [← et, List.drop_append_of_le_length hl, List.flatten_append] at hb
    rcases List.mem_append.mp hb with h | h
    · exact r.new b h
    · refine r.h0_none (r'.new b ?_)
      show b ∈ (ca'.drop ca.length).flatten
      rw [← et, List.drop_left]
      exact h
  · have e : ms.env[i]? = some (some y) := e
    obtain ⟨v, e1, q⟩ := r.slots i y e
    refine ⟨v, e1, ?_⟩
    cases y with
    | fz w => exact Rp.mono x _ _ q
    | ow xs =>
      obtain ⟨p, rfl, h0, vs, a, b⟩ := q
      exact ⟨p, rfl, h0, vs, same _ _ a (r.oca i p (by rw [e]; rfl) e1), RpAll.mono x _ _ b⟩
    | od xs =>
      obtain ⟨p, rfl, h0, vs, a, b⟩ := q
      exact ⟨p, rfl, h0, vs, same _ _ a (r.oca i p (by rw [e]; rfl) e1), RpKv.mono x _ _ b⟩
  · obtain ⟨y, hy⟩ := isOwn_some e1
    have hy : ms.env[i]? = some (some y) := hy
    have e1 : Sl.isOwn ms.env[i]? = true := e1
    rw [hy] at e1
    obtain ⟨v, e3, q⟩ := r.slots i y hy
    rw [e2] at e3
    cases e3
    obtain ⟨p', ep, _, oa⟩ := q.own e1
    cases ep
    obtain ⟨o, ho, _⟩ := oa.mut
    have hn := r.oca i p (by rw [hy]; exact e1) e2
    obtain ⟨t, et⟩ := r'.pre
    have et : ca ++ t = ca' := et
    rw [← et, List.flatten_append] at hm
    rcases List.mem_append.mp hm with h | h
    · exact hn h
    · have := r'.new p (by show p ∈ (ca'.drop ca.length).flatten; rw [← et, List.drop_left]; exact h)
      have this : H p = none := this
      rw [ho] at this; cases this
end
/-! ### calls -/
def eCall (st : Bool) (F : FM) (wd : List W) (l : LM) : EM := fun m => (l m).bind fun ws m => match F (ws ++ wd) (if st = true then m.cells else []) with
  | .ok w m' => .ok w { m with cells := if st = true then m'.cells else m.cells }
  | .err c fs m' => .err c fs { m with cells := if st = true then m'.cells else m.cells }
  | .bad => .bad
section
variable {D : DC} {Wx : WX} {X : Cx} {k n : Nat} {f : Addr} {fd : FuncData} {ps : List Str} {st : Bool} {F : FM} {dvs : List V} {ds : List Value} {wd : List W} {x : Str} {p pos : Pos} {e : Expr} {es : List Expr} {l : LM}
theorem call_of {σ : L2.St} {H : Hp} {Q : VK} (hK : D.K = X.K) (hst : st = true → D.st = true) (hn : ∀ ws m m', l m = .ok ws m' → ws.length + wd.length = n) (hw : ∀ ca H, RpAll X.K ca H wd dvs) (h : RdE D Wx (eCall st F wd l) σ H Q) :
    RdA D Wx l σ H fun vs H1 => callP X.K st F n (vs ++ dvs) H1 Q (WE Wx σ) := by
  obtain ⟨ca, ms, r, h⟩ := h
  have h' : Po D Wx σ ca H ((l ms).bind fun ws m => if ws.length + wd.length = n then match F (ws ++ wd) (if st = true then m.cells else []) with
    | .ok w m' => .ok w { m with cells := if st = true then m'.cells else m.cells }
    | .err c fs m' => .err c fs { m with cells := if st = true then m'.cells else m.cells }
    | .bad => .bad else .bad) (EQ D σ ca H Q) := by
    unfold eCall at h
    cases e : l ms with
    | ok ws m =>
      rw [e] at h
      have hl := hn _ _ _ e
      show Po D Wx σ ca H (if ws.length + wd.length = n then _ else _) _
      rw [if_pos hl]
      exact h
    | err c fs m => rw [e] at h; exact h
    | bad => rw [e] at h; exact h
  refine RdA.bind r h' fun ws vs ms1 ca1 H1 x1 r1 p1 h1 => ?_
  by_cases hl : ws.length + wd.length = n
  · rw [if_pos hl] at h1
    have hdl := (hw ca1 H1).length
    have rb := r1.base hst
    rw [hK] at rb p1
    refine ⟨by rw [List.length_append, p1.length, hdl]; exact hl, ca1, _, ws ++ wd, rb, p1.append (hw ca1 H1), ?_⟩
    cases ef : F (ws ++ wd) (if st = true then ms1.cells else []) with
    | ok w m' =>
      rw [ef] at h1
      refine fun v ca' H' x' r' pv => ?_
      rw [← hK] at r' pv
      exact h1 v ca' H' (x1.trans x') (r1.behind (m' := ⟨[], m'.cells⟩) hst r') pv
    | err c fs m' =>
      rw [ef] at h1
      refine fun cls d σ' ca' H' x' r' er => ?_
      have r' : Rel (cb X.K H1 ca1 st) ca' σ' H' m' := r'
      rw [← hK] at r'
      exact h1 cls d σ ca' H' (x1.trans x') (r1.behind hst r') (by rw [hK]; exact er)
    | bad => rw [ef] at h1; exact h1
  · rw [if_neg hl] at h1
    exact h1.elim
theorem de_call (FO : FnOk X.prog X.w X.K X.mg X.base (L2.CX X.prog X.w) k f fd ps (callP X.K st F n)) (hr : Room k X.A) (hg : Gl X x) (hm : X.mg x = some (.ref f)) (hk : PySem.W.keepIn X.K (.ref f) = true) (hb : Binds X.K fd ps ds) (hd : Vals dvs ds) (tk : L2.Takes X Wx)
    (ha : DA D Wx X (e :: es) l) (hK : D.K = X.K) (hst : st = true → D.st = true) (hn : ∀ ws m m', l m = .ok ws m' → ws.length + wd.length = n) (hw : ∀ ca H, RpAll X.K ca H wd dvs)
    (hdb : (x == ("__debug__" : Str)) = false := by decide) (he : starEach (e :: es) X.env = (false, eval e X.env) :: starEach es X.env := by rfl) (hpl : (backTo pos (starEach es X.env)).any (·.1) = false := by rfl) :
    DE D Wx X (.Call (.Name x p) (e :: es) [] pos) (eCall st F wd l) :=
  PE.mono (pe_callSD (E := WE Wx) FO hr hg hm hk hb hd (fun σ => passAt tk σ) ha hdb he hpl) fun σ H Q h => call_of hK hst hn hw h
end
/-- how many values come -/
def LQt (n : Nat) (l : LM) : Prop := ∀ ws m m', l m = .ok ws m' → ws.length = n
theorem lq_nil : LQt 0 aNil := fun ws m m' h => by cases h; rfl
theorem lq_cons {n : Nat} {a : EM} {l : LM} (h : LQt n l) : LQt (n + 1) (aCons a l) := fun ws m m' e => by
  unfold aCons at e
  cases e1 : a m with
  | ok w m1 =>
    rw [e1] at e
    have e : ((l m1).bind fun xs m => R.ok (w :: xs) m) = .ok ws m' := e
    cases e2 : l m1 with
    | ok xs m2 => rw [e2] at e; cases e; rw [List.length_cons, h _ _ _ e2]
    | err c fs m2 => rw [e2] at e; cases e
    | bad => rw [e2] at e; cases e
  | err c fs m1 => rw [e1] at e; cases e
  | bad => rw [e1] at e; cases e
/-! ### a def's body -/
theorem body_of {K : PySem.W.Frag} {st : Bool} {N : List Str} {body : SM} {n : Nat} {vs : List V} {H : Hp} {Q : VK} {E : XK} (h : callP K st (runB N.length body) n vs H Q E) :
    ∃ ca, RdS (cb K H ca st) (fun cls d _ H' => E cls d H') body { nx := fun _ H' => Q .non H', rt := Q } (L2.start N vs) H := by
  obtain ⟨_, ca, cs, ws, r, p, h⟩ := h
  refine ⟨ca, RdS.of (r.start p) ?_⟩
  unfold runB at h
  cases e : body ⟨ws.map (fun w => some (.fz w)) ++ List.replicate (N.length - ws.length) none, cs⟩ with
  | ok f m =>
    rw [e] at h
    cases f with
    | ret w => exact fun v σ' ca' H' x' r' pv => h v ca' H' x' r'.drop pv
    | next => exact fun σ' ca' H' x' r' => h .non ca' H' x' r'.drop (by simp only [Rp])
    | brk => exact h.elim
    | cont => exact h.elim
  | err c fs m =>
    rw [e] at h
    exact fun cls d σ' ca' H' x' r' er => h cls d [] ca' H' x' r'.drop er
  | bad => rw [e] at h; exact h
section
variable {P : Program} {w : World} {K : PySem.W.Frag} {mg : Str → Option Value} {base : Heap} {x qual : Str} {params : Arguments} {body : List Stmt} {scope : Scope} {dvs : List V} {kws : List (Str × V)} {f : Addr} {fd : FuncData} {N ps : List Str} {k : Nat} {st : Bool} {mb : SM}
/-- the def keeps its promise -/
theorem fn_ok (Fd : FunD K x qual params body scope dvs kws f fd) (S : FnScope N ps scope)
    (hb : ∀ (cdv : Value) (A : Around) (outer : List Env) (s : Shared) (H : Hp) (E : XK), Room k (A.deeper (envOfC qual scope s.heap.objs.size f cdv)) → ∀ (Wx : WX), L2.Takes (cxOf (L2.CX P w) P w K mg base N qual scope f cdv A outer s H E) Wx → ∀ D : DC, D.K = K → (st = true → D.st = true) →
      DSs D Wx (cxOf (L2.CX P w) P w K mg base N qual scope f cdv A outer s H E) body mb) :
    FnOk P w K mg base (L2.CX P w) (k + 1) f fd ps (callP K st (runB N.length mb) ps.length) :=
  Fd.ok S (fun vs H Q E h => h.1) fun cdv A outer s H vs Q E hr h => by
    obtain ⟨ca, h2⟩ := body_of h
    exact ⟨_, hb cdv A outer s H E hr _ (takes_of rfl rfl rfl rfl) (cb K H ca st) rfl (fun h => h), h2⟩
end
end DL
namespace DL
open PySem PySem.Spec PyProof.Rows L2

/-! ### a op b op c -/
def opR (D : DC) (g : W → W → Option W) : R2 := fun x y H Q => ∃ ca wx wy w, Rp D.K ca H wx x ∧ Rp D.K ca H wy y ∧ g wx wy = some w ∧ ∀ v H', Same H H' → Rp D.K ca H' w v → Q v H'
theorem DOp.r {D : DC} {X : Cx} {f : Value → Value → Sem Value} {g : W → W → Option W} (h : DOp D X f g) : OpR X f (opR D g) :=
  fun pins s σ H x y v u Q I r1 r2 ⟨ca, wx, wy, w, p1, p2, e, q⟩ => h pins s σ ca H x y v u wx wy w Q I r1 r2 p1 p2 e q
def eChain (g g' : W → W → Option W) (a b c : EM) : EM := fun m => (a m).bind fun x m => (b m).bind fun y m => match g x y with
  | some (.bool true) => (c m).bind fun z m => opt (g' y z) m
  | some (.bool false) => .ok (.bool false) m
  | _ => .bad
section
variable {D : DC} {Wx : WX} {X : Cx} {a b c : Expr} {ma mb mc : EM} {op op' : CmpOp} {g g' : W → W → Option W} {pos : Pos}
theorem chain_of {σ : L2.St} {H : Hp} {Q : VK} (h : RdE D Wx (eChain g g' ma mb mc) σ H Q) : tChain (opR D g) (opR D g') (RdE D Wx ma) (RdE D Wx mb) (RdE D Wx mc) σ H Q := by
  obtain ⟨ca, ms, r, h⟩ := h
  refine RdE.bind r h fun wx x ms1 ca1 H1 x1 r1 p1 h1 => RdE.bind r1 (h1.ext x1) fun wy y ms2 ca2 H2 x2 r2 p2 h2 => ?_
  cases e : g wx wy with
  | none => rw [e] at h2; exact h2.elim
  | some w =>
    rw [e] at h2
    refine ⟨ca2, wx, wy, w, Rp.mono x2 _ _ p1, p2, e, fun v H' gr pv => ?_⟩
    cases w with
    | bool k =>
      simp only [Rp] at pv
      refine ⟨k, pv, ?_⟩
      cases k with
      | true =>
        rw [if_pos rfl]
        have r3 := r2.grow gr
        have h3 := h2.ext (x2.trans (.of_same gr))
        refine RdE.bind r3 h3 fun wz z ms4 ca4 H4 x4 r4 p4 h4 => ?_
        obtain ⟨w, e', q⟩ := Po.opt h4
        exact ⟨ca4, wy, wz, w, Rp.mono ((Ext.of_same gr).trans x4) _ _ p2, p4, e', fun v H5 g5 p5 => q v ca4 H5 ((((x1.trans x2).trans (.of_same gr)).trans x4).trans (.of_same g5)) (r4.grow g5) p5⟩
      | false =>
        rw [if_neg (by decide)]
        exact h2 _ ca2 H' ((x1.trans x2).trans (.of_same gr)) (r2.grow gr) (by simp only [Rp])
    | _ => exact h2.elim
theorem de_chain (ho : DOp D X (compareOp op) g) (ho' : DOp D X (compareOp op') g') (ha : DE D Wx X a ma) (hb : DE D Wx X b mb) (hc : DE D Wx X c mc) (hm : lastMarks [op, op'] [b, c] = false := by with_unfolding_all rfl) :
    DE D Wx X (.Compare a [op, op'] [b, c] pos) (eChain g g' ma mb mc) := PE.mono (pe_chain ho.r ho'.r ha hb hc hm) fun σ H Q h => chain_of h
theorem dt_chain (ho : DOp D X (compareOp op) g) (ho' : DOp D X (compareOp op') g') (ha : DE D Wx X a ma) (hb : DE D Wx X b mb) (hc : DE D Wx X c mc) (hm : lastMarks [op, op'] [b, c] = false := by with_unfolding_all rfl) :
    DT D Wx X (.Compare a [op, op'] [b, c] pos) (tVal (eChain g g' ma mb mc)) := PT.mono (pt_chain ho.r ho'.r ha hb hc hm) fun σ H Q h => by
  refine chain_of ?_
  obtain ⟨ca, ms, r, h⟩ := h
  refine RdE.bind r h fun w v ms1 ca1 H1 x1 r1 p1 h1 => ?_
  cases w with
  | bool k =>
    simp only [Rp] at p1
    exact ⟨k, p1, h1 ca1 H1 x1 r1⟩
  | _ => exact h1.elim
end
/-! ### two clauses -/
theorem Rel.sub {D : DC} {ca : CA} {σ σ' : L2.St} {H : Hp} {env env' : List (Option Sl)} {cs : List Cell} (r : Rel D ca σ' H ⟨env', cs⟩) (hl : env.length = σ.length) (h : ∀ (i : Nat) (y : Sl), env[i]? = some (some y) → env'[i]? = some (some y) ∧ σ'[i]? = σ[i]?) : Rel D ca σ H ⟨env, cs⟩ := by
  have own : ∀ i : Nat, Sl.isOwn env[i]? = true → Sl.isOwn env'[i]? = true ∧ σ'[i]? = σ[i]? := fun i e => by
    obtain ⟨y, hy⟩ := isOwn_some e
    obtain ⟨h1, h2⟩ := h i y hy
    rw [hy] at e
    exact ⟨by rw [h1]; exact e, h2⟩
  refine ⟨r.len, r.cells, r.nd, r.pre, r.fr, r.new, hl, fun i y e => ?_, fun i j v hij e1 e2 e3 e4 => ?_, r.c0, fun i p e1 e2 => ?_⟩
  · obtain ⟨h1, h2⟩ := h i y e
    obtain ⟨v, e1, q⟩ := r.slots i y h1
    exact ⟨v, by rw [← h2]; exact e1, q⟩
  · obtain ⟨a1, b1⟩ := own i e1
    obtain ⟨a2, b2⟩ := own j e2
    exact r.sep i j v hij a1 a2 (by rw [b1]; exact e3) (by rw [b2]; exact e4)
  · obtain ⟨a1, b1⟩ := own i e1
    exact r.oca i p a1 (by rw [b1]; exact e2)
def LQe (l : LM) : Prop := ∀ s w s', l s = .ok w s' → s'.env = s.env
def compGo2 (g : GM) (t : TM) (it1 : LM) (g1 : GM) (t1 : TM) (el : EM) (vs1 : List Nat) (env0 : List (Option Sl)) : List W → List Cell → Option (List W × List Cell)
  | [], cs => some ([], cs)
  | x :: xs, cs => match g x ⟨env0, cs⟩ with
    | .ok _ m2 => match t m2 with
      | .ok true m3 => match it1 m3 with
        | .ok ys m4 => match compGo g1 t1 el (wipeE m4.env vs1) ys m4.cells with
          | some (zs, cs1) => match compGo2 g t it1 g1 t1 el vs1 env0 xs cs1 with
            | some (rs, cs') => some (zs ++ rs, cs')
            | none => none
          | none => none
        | _ => none
      | .ok false m3 => compGo2 g t it1 g1 t1 el vs1 env0 xs m3.cells
      | _ => none
    | _ => none
def fComp2 (it : LM) (g : GM) (t : TM) (it1 : LM) (g1 : GM) (t1 : TM) (el : EM) (vs1 own : List Nat) : LM := fun m => (it m).bind fun xs m => if ownFree m.env own = false then .bad else match compGo2 g t it1 g1 t1 el vs1 (wipeE m.env own) xs m.cells with
  | some (ys, cs) => if szOk ys.length = true then .ok ys { m with cells := cs } else .bad
  | none => .bad
def iAny_ (D0 : DC) (it : LM) : TI := fun σ H R => ∃ D : DC, D.K = D0.K ∧ D.st = D0.st ∧ RdI D W0 it σ H R
theorem RdI.okk {D : DC} {σ : L2.St} {ca : CA} {H : Hp} {ms m1 : MS} {it : LM} {xs : List W} {R : It → Hp → Prop} (r : Rel D ca σ H ms) (e : it ms = .ok xs m1) (q : ∀ J ca' H', Ext ca H ca' H' → Rel D ca' σ H' m1 → DWalk D.K J ca' H' xs → R J H') : RdI D W0 it σ H R :=
  ⟨ca, ms, r, by rw [e]; exact q⟩
/-- the state, turn by turn -/
def CSt (D : DC) (H1 : Hp) (ca1 : CA) (L : Addr) (σ : L2.St) (env : List (Option Sl)) (dn : List W) (cs : List Cell) (H : Hp) : Prop :=
  ∃ (ca : CA) (acc : List V), Kp H1 H ∧ ca1 <+: ca ∧ Rel (D.guard L (.lst acc)) ca σ H ⟨env, cs⟩ ∧ RpAll D.K ca H dn acc
theorem comp_inner {D : DC} {H0 : Hp} {ca0 ca4 : CA} {σ2 : L2.St} {H4 : Hp} {L : Addr} {env1 : List (Option Sl)} {sl1 vs1 : List Nat} {g1 : GM} {t1 : TM} {el : EM} {ys dn0 zs : List W} {acc0 : List V} {cs4 cs1 : List Cell} {J1 : It} {Nx : Hp → Prop}
    (hgq : GQ sl1 g1) (htq : TQt t1) (heq : EQt el) (hv : ∀ i ∈ sl1, i ∈ vs1) (hw : ∀ i ∈ vs1, ∀ y, env1[i]? ≠ some (some y)) (hL0 : L ∉ D.ca0.flatten) (k0 : Kp H0 H4) (p0 : ca0 <+: ca4) (r4 : Rel (D.guard L (.lst acc0)) ca4 (L2.wipe σ2 vs1) H4 ⟨env1, cs4⟩) (pa0 : RpAll D.K ca4 H4 dn0 acc0) (dw : DWalk D.K J1 ca4 H4 ys)
    (hc : compGo g1 t1 el env1 ys cs4 = some (zs, cs1)) (hz : dn0.length + zs.length ≤ sizeLine) (hq : ∀ H, CSt D H0 ca0 L (L2.wipe σ2 vs1) env1 (dn0 ++ zs) cs1 H → Nx H) :
    ∃ W1 : Nat → Nat → Hp → Prop, (∃ m, W1 0 m H4) ∧ ∀ j k H, W1 j k H →
      (J1.stop j H ∧ Nx H) ∨ (J1.go j H ∧ ∃ Nx1 : Hp → Prop, (∀ H', Nx1 H' → ∃ k', k' < k ∧ W1 (j + 1) k' H') ∧ ∀ x H', J1.yld j H x H' → gAny_ D sl1 g1 x (L2.wipe σ2 vs1) H' fun σ3 H5 => L2.wipe σ3 vs1 = L2.wipe σ2 vs1 ∧ tAny_ D t1 σ3 H5 fun b H6 =>
        if b = true then eAny_ D el σ3 H6 fun y H7 => ∃ acc, H7 L = some (.lst acc) ∧ acc.length < sizeLine ∧ Nx1 (upd H7 L (.lst (acc ++ [y]))) else Nx1 H6) := by
  refine ⟨fun i m H => m = ys.length - i ∧ i ≤ ys.length ∧ Kp H4 H ∧ ∃ cs dn rs, (∃ (ca : CA) (acc : List V), ca4 <+: ca ∧ Rel (D.guard L (.lst acc)) ca (L2.wipe σ2 vs1) H ⟨env1, cs⟩ ∧ RpAll D.K ca H dn acc) ∧ compGo g1 t1 el env1 (ys.drop i) cs = some (rs, cs1) ∧ dn0 ++ zs = dn ++ rs,
    ⟨ys.length, by simp, Nat.zero_le _, .refl _, cs4, dn0, zs, ⟨ca4, acc0, List.prefix_refl _, r4, pa0⟩, by simpa using hc, rfl⟩, ?_⟩
  rintro i m H ⟨rfl, hi, kp, cs, dn, rs, ⟨ca, acc, px, r, pa⟩, cg, ey⟩
  by_cases hlt : i < ys.length
  · refine .inr ⟨dw.goes i H hlt kp, fun H' => Kp H4 H' ∧ ∃ cs dn rs, (∃ (ca : CA) (acc : List V), ca4 <+: ca ∧ Rel (D.guard L (.lst acc)) ca (L2.wipe σ2 vs1) H' ⟨env1, cs⟩ ∧ RpAll D.K ca H' dn acc) ∧ compGo g1 t1 el env1 (ys.drop (i + 1)) cs = some (rs, cs1) ∧ dn0 ++ zs = dn ++ rs,
      fun H' p' => ⟨ys.length - (i + 1), by omega, rfl, hlt, p'⟩, fun x H' hy => ?_⟩
    have hx : ys[i]? = some ys[i] := by simp [hlt]
    obtain ⟨sm, px1⟩ := dw.yields i H x H' ys[i] kp hx hy
    rw [List.drop_eq_getElem_cons hlt] at cg
    have r2 := r.grow sm
    have pa2 : RpAll D.K ca H' dn acc := RpAll.mono (.of_same sm) _ _ pa
    have kp2 : Kp H4 H' := kp.trans (.of_same sm)
    have px2 : Rp D.K ca H' ys[i] x := Rp.mono ⟨.refl _, px⟩ _ _ px1
    unfold compGo at cg
    split at cg
    · rename_i u m2 eg
      refine ⟨D.guard L (.lst acc), rfl, rfl, ca, _, ys[i], r2, px2, m2, eg, fun σ3 ca2 H2 hl2 hs2 x2 r3 => ⟨(wipe_eq hl2 hs2 hv).trans (wipe_wipe σ2 vs1), ?_⟩⟩
      have pa3 : RpAll D.K ca2 H2 dn acc := RpAll.mono x2 _ _ pa2
      split at cg
      · rename_i m3 et
        refine ⟨D.guard L (.lst acc), rfl, rfl, RdT.okk r3 et fun ca3 H3 x3 r4 => ?_⟩
        rw [if_pos rfl]
        split at cg
        · rename_i y m4 ee
          refine ⟨D.guard L (.lst acc), rfl, rfl, RdE.okk r4 ee fun v ca5 H5 x4 r5 p5 => ?_⟩
          have pa5 : RpAll D.K ca5 H5 dn acc := RpAll.mono (x3.trans x4) _ _ pa3
          split at cg
          · rename_i ys2 cs2 ec
            cases cg
            have hlen : acc.length < sizeLine := by
              have e1 : acc.length = dn.length := pa5.length
              have e2 := congrArg List.length ey
              simp only [List.length_append, List.length_cons] at e2
              omega
            refine ⟨acc, r5.at_guard hL0, hlen, ?_⟩
            have hb : Rel (D.guard L (.lst acc)) ca5 (L2.wipe σ2 vs1) H5 ⟨env1, m4.cells⟩ := r2.turned r5 (x2.trans (x3.trans x4)) hs2 (fun i hi => by rw [heq _ _ _ ee, htq _ _ _ et]; exact hgq _ _ _ eg i hi) hv hw
            have x5 : Kp H5 (upd H5 L (.lst (acc ++ [v]))) := Kp.upd_mut (r5.at_guard hL0) Mut_lst
            exact ⟨kp2.trans ((x2.trans (x3.trans x4)).kp.trans x5), m4.cells, dn ++ [y], ys2, ⟨ca5, acc ++ [v], px.trans (x2.trans (x3.trans x4)).pre, hb.reguard hL0 Mut_lst, RpAll.mono ⟨x5, List.prefix_refl _⟩ _ _ (pa5.append (.one p5))⟩, ec, by rw [ey]; simp⟩
          · cases cg
        · cases cg
      · rename_i m3 et
        refine ⟨D.guard L (.lst acc), rfl, rfl, RdT.okk r3 et fun ca3 H3 x3 r4 => ?_⟩
        rw [if_neg (by decide)]
        have hb : Rel (D.guard L (.lst acc)) ca3 (L2.wipe σ2 vs1) H3 ⟨env1, m3.cells⟩ := r2.turned r4 (x2.trans x3) hs2 (fun i hi => by rw [htq _ _ _ et]; exact hgq _ _ _ eg i hi) hv hw
        exact ⟨kp2.trans (x2.trans x3).kp, m3.cells, dn, rs, ⟨ca3, acc, px.trans (x2.trans x3).pre, hb, RpAll.mono x3 _ _ pa3⟩, cg, ey⟩
      · cases cg
    · cases cg
  · have e : i = ys.length := by omega
    subst e
    rw [List.drop_length] at cg
    unfold compGo at cg
    cases cg
    rw [List.append_nil] at ey
    rw [← ey] at pa
    exact .inl ⟨dw.stops H kp, hq H ⟨ca, acc, k0.trans kp, p0.trans px, r, pa⟩⟩
theorem comp2_of {D : DC} {Wx : WX} {it it1 : LM} {g g1 : GM} {t t1 : TM} {el : EM} {sl sl1 vs1 own : List Nat} {σ : L2.St} {H : Hp} {Q : VK} (hgq : GQ sl g) (htq : TQt t) (hiq : LQe it1) (hgq1 : GQ sl1 g1) (htq1 : TQt t1) (heq : EQt el) (hv : ∀ i ∈ sl, i ∈ own) (hv1 : ∀ i ∈ sl1, i ∈ vs1) (hvo : ∀ i ∈ vs1, i ∈ own)
    (h : RdF D Wx (fComp2 it g t it1 g1 t1 el vs1 own) σ H Q) :
    tLc2 (RdI D Wx it) (gAny_ D sl g) (tAny_ D t) (iAny_ D it1) (gAny_ D sl1 g1) (tAny_ D t1) (eAny_ D el) own vs1 σ H Q := by
  obtain ⟨ca, ms, r, h⟩ := h
  refine RdI.bind r h fun xs J ms1 ca1 H1 x1 r1 dw h1 => fun L hL => ?_
  by_cases hof : ownFree ms1.env own = false
  · rw [if_pos hof] at h1; exact h1.elim
  rw [if_neg hof] at h1
  split at h1
  case h_2 => exact h1.elim
  rename_i ys cs' ec
  by_cases hz : szOk ys.length = true
  case neg =>
    rw [if_neg hz] at h1; exact h1.elim
  rw [if_pos hz] at h1
  have hzl := szOk_le hz
  have rw1 := r1.wipe own
  have hL0 := r1.not_ca0 hL
  have h0 := r1.h0_none hL
  generalize henv : wipeE ms1.env own = env0 at ec rw1
  have hw : ∀ i ∈ own, ∀ y, env0[i]? ≠ some (some y) := by subst henv; exact wipeE_at
  refine ⟨fun i m H => m = xs.length - i ∧ i ≤ xs.length ∧ ∃ cs dn rs, CSt D H1 ca1 L (L2.wipe σ own) env0 dn cs H ∧ compGo2 g t it1 g1 t1 el vs1 env0 (xs.drop i) cs = some (rs, cs') ∧ ys = dn ++ rs,
    ⟨xs.length, by simp, Nat.zero_le _, ms1.cells, [], ys, ⟨ca1, [], .upd_new hL, List.prefix_refl _, rw1.guard hL, by simp only [RpAll]⟩, by simpa using ec, rfl⟩, ?_⟩
  rintro i m H ⟨rfl, hi, cs, dn, rs, ⟨ca2, acc, kp, px, r, pa⟩, cg, ey⟩
  by_cases hlt : i < xs.length
  · refine .inr ⟨dw.goes i H hlt kp, fun H' => ∃ cs dn rs, CSt D H1 ca1 L (L2.wipe σ own) env0 dn cs H' ∧ compGo2 g t it1 g1 t1 el vs1 env0 (xs.drop (i + 1)) cs = some (rs, cs') ∧ ys = dn ++ rs, fun H' p' => ⟨xs.length - (i + 1), by omega, rfl, hlt, p'⟩, fun x H' hy => ?_⟩
    have hx : xs[i]? = some xs[i] := by simp [hlt]
    obtain ⟨sm, px1⟩ := dw.yields i H x H' xs[i] kp hx hy
    rw [List.drop_eq_getElem_cons hlt] at cg
    have r2 := r.grow sm
    have pa2 : RpAll D.K ca2 H' dn acc := RpAll.mono (.of_same sm) _ _ pa
    have kp2 : Kp H1 H' := kp.trans (.of_same sm)
    have px2 : Rp D.K ca2 H' xs[i] x := Rp.mono ⟨.refl _, px⟩ _ _ px1
    unfold compGo2 at cg
    split at cg
    · rename_i u m2 eg
      refine ⟨D.guard L (.lst acc), rfl, rfl, ca2, _, xs[i], r2, px2, m2, eg, fun σ2 ca3 H2 hl2 hs2 x2 r3 => ⟨(wipe_eq hl2 hs2 hv).trans (wipe_wipe σ own), ?_⟩⟩
      have pa3 : RpAll D.K ca3 H2 dn acc := RpAll.mono x2 _ _ pa2
      split at cg
      · rename_i m3 et
        refine ⟨D.guard L (.lst acc), rfl, rfl, RdT.okk r3 et fun ca4 H3 x3 r4 => ?_⟩
        rw [if_pos rfl]
        split at cg
        · rename_i ws m4 ei
          refine ⟨D.guard L (.lst acc), rfl, rfl, RdI.okk r4 ei fun J1 ca5 H4 x4 r5 dw1 => ?_⟩
          have pa5 : RpAll D.K ca5 H4 dn acc := RpAll.mono (x3.trans x4) _ _ pa3
          split at cg
          · rename_i zs cs1 ez
            split at cg
            · rename_i rs2 cs2 er
              cases cg
              have hz2 : dn.length + zs.length ≤ sizeLine := by
                rw [ey] at hzl
                simp only [List.length_append] at hzl
                omega
              have r6 := r5.wipe vs1
              refine comp_inner hgq1 htq1 heq hv1 wipeE_at hL0 (kp2.trans (x2.trans (x3.trans x4)).kp) (px.trans (x2.trans (x3.trans x4)).pre) r6 pa5 dw1 ez hz2 fun H7 ⟨ca7, acc7, k7, p7, r7, pa7⟩ => ?_
              refine ⟨cs1, dn ++ zs, rs2, ⟨ca7, acc7, k7, p7, r7.sub ?_ fun j y hj => ?_, pa7⟩, er, by rw [ey]; simp⟩
              · have := r2.slen
                exact this
              · have hjo : j ∉ own := fun z => hw j z y hj
                have hjs : j ∉ sl := fun z => hjo (hv j z)
                have hj1 : j ∉ vs1 := fun z => hjo (hvo j z)
                refine ⟨?_, ?_⟩
                · rw [wipeE_keep hj1, hiq _ _ _ ei, htq _ _ _ et, hgq _ _ _ eg j hjs]
                  exact hj
                · rw [wipe_keep hj1, hs2 j hjs]
            · cases cg
          · cases cg
        · cases cg
      · rename_i m3 et
        refine ⟨D.guard L (.lst acc), rfl, rfl, RdT.okk r3 et fun ca4 H3 x3 r4 => ?_⟩
        rw [if_neg (by decide)]
        have hb : Rel (D.guard L (.lst acc)) ca4 (L2.wipe σ own) H3 ⟨env0, m3.cells⟩ := r2.turned r4 (x2.trans x3) hs2 (fun i hi => by rw [htq _ _ _ et]; exact hgq _ _ _ eg i hi) hv hw
        exact ⟨m3.cells, dn, rs, ⟨ca4, acc, kp2.trans (x2.trans x3).kp, px.trans (x2.trans x3).pre, hb, RpAll.mono x3 _ _ pa3⟩, cg, ey⟩
      · cases cg
    · cases cg
  · have e : i = xs.length := by omega
    subst e
    rw [List.drop_length] at cg
    unfold compGo2 at cg
    cases cg
    rw [List.append_nil] at ey
    subst ey
    refine .inl ⟨dw.stops H kp, ?_⟩
    have r3 := r.ungrow hL0 h0 Mut_lst
    have ke : Kp H (erase H L) := .erase (r.at_guard hL0) Mut_lst
    have xx : Ext ca1 H1 ca2 (erase H L) := ⟨kp.trans ke, px⟩
    have r4 : Rel D ca2 σ (erase H L) ⟨ms1.env, cs'⟩ := r1.back r3 xx fun i y e1 e2 => by
      have hi : i ∉ own := fun z => by rw [ownFree_at hof i z] at e1; cases e1
      refine ⟨?_, wipe_keep hi⟩
      show env0[i]? = _
      rw [← e2, ← henv]
      exact wipeE_keep hi
    have := h1 L acc ca2 (erase H L) (x1.trans xx) r4 erase_same (RpAll.mono ⟨ke, List.prefix_refl _⟩ _ _ pa)
    rw [upd_erase (r.at_guard hL0)] at this
    exact this
section
variable {D : DC} {Wx : WX} {X : Cx} {elt tg iter tg1 iter1 : Expr} {ifs ifs1 : List Expr} {scope : Scope} {own : List (Str × Nat)} {sl sl1 vs1 : List Nat} {pos spos : Pos} {it it1 : LM} {g g1 : GM} {t t1 : TM} {el : EM}
theorem df_comp2 (hK : D.K = X.K) (hc : X.calm = true) (hN : X.N.Nodup) (hi : DI D Wx X tg iter it) (ok : BlkOk X.N X.env.scope scope own) (hg : Blks X scope fun Y => ∀ D' : DC, D'.K = X.K → D'.st = D.st → DG D' Y tg sl g)
    (ht : Blks X scope fun Y => ∀ D' : DC, D'.K = X.K → D'.st = D.st → PTs Y ifs (RdT D' W0 t)) (hi1 : Blks X scope fun Y => ∀ D' : DC, D'.K = X.K → D'.st = D.st → DI D' W0 Y tg1 iter1 it1) (hg1 : Blks X scope fun Y => ∀ D' : DC, D'.K = X.K → D'.st = D.st → DG D' Y tg1 sl1 g1)
    (ht1 : Blks X scope fun Y => ∀ D' : DC, D'.K = X.K → D'.st = D.st → PTs Y ifs1 (RdT D' W0 t1)) (he : Blks X scope fun Y => ∀ D' : DC, D'.K = X.K → D'.st = D.st → DE D' W0 Y elt el) (htq : TQt t) (hiq : LQe it1) (htq1 : TQt t1) (heq : EQt el) (hv : ∀ i ∈ sl, i ∈ own.map (·.2)) (hv1 : ∀ i ∈ sl1, i ∈ vs1) (hvo : ∀ i ∈ vs1, i ∈ own.map (·.2))
    (hs : ∀ x, foldedSetIterable iter X.env x = pure x := by intro _; rfl) (hs1 : ∀ env x, foldedSetIterable iter1 env x = pure x := by intro _ _; rfl) :
    DF D Wx X (.ListComp elt [⟨tg, iter, ifs, 0⟩, ⟨tg1, iter1, ifs1, 0⟩] scope pos) (fComp2 it g t it1 g1 t1 el vs1 (own.map (·.2))) :=
  PE.mono (pe_lc2 hc hN hi ok hvo (g := gAny_ D sl g) (tt := tAny_ D t) (te := eAny_ D el) (wi1 := iAny_ D it1) (g1 := gAny_ D sl1 g1) (tt1 := tAny_ D t1)
    (fun s H C cl fp => ⟨fun pins s' σ H' v u Q I r ⟨D', hD, hS, h⟩ => (hg s H C cl fp D' (hD.trans hK) hS).pg.run pins s' σ H' v u Q I r h⟩)
    (fun s H C cl fp => ⟨fun pins s' σ H' Q I ⟨D', hD, hS, h⟩ => (ht s H C cl fp D' (hD.trans hK) hS).run pins s' σ H' Q I h⟩)
    (fun s H C cl fp => ⟨fun pins s' σ H' R I ⟨D', hD, hS, h⟩ => (hi1 s H C cl fp D' (hD.trans hK) hS).run pins s' σ H' R I h⟩)
    (fun s H C cl fp => ⟨fun pins s' σ H' v u Q I r ⟨D', hD, hS, h⟩ => (hg1 s H C cl fp D' (hD.trans hK) hS).pg.run pins s' σ H' v u Q I r h⟩)
    (fun s H C cl fp => ⟨fun pins s' σ H' Q I ⟨D', hD, hS, h⟩ => (ht1 s H C cl fp D' (hD.trans hK) hS).run pins s' σ H' Q I h⟩)
    (fun s H C cl fp => ⟨fun pins s' σ H' Q I ⟨D', hD, hS, h⟩ => (he s H C cl fp D' (hD.trans hK) hS).run pins s' σ H' Q I h⟩) hs hs1) fun σ H Q h => comp2_of (hg X.s_0 X.H_0 0 [] [] D hK rfl).gq htq hiq (hg1 X.s_0 X.H_0 0 [] [] D hK rfl).gq htq1 heq hv hv1 hvo h
theorem ds_setLc2 {i : Nat} {y : Str} {py : Pos} (hK : D.K = X.K) (hc : X.calm = true) (hN : X.N.Nodup) (hy : X.N[i]? = some y)
    (hyl : X.env.scope.names.lookup y = some .local) (hsw : swapsWith (.ListComp elt [⟨tg, iter, ifs, 0⟩, ⟨tg1, iter1, ifs1, 0⟩] scope pos) (some (.Name y py)) spos.line X.env = pure true)
    (hi : DI D Wx X tg iter it) (ok : BlkOk X.N X.env.scope scope own) (hg : Blks X scope fun Y => ∀ D' : DC, D'.K = X.K → D'.st = D.st → DG D' Y tg sl g)
    (ht : Blks X scope fun Y => ∀ D' : DC, D'.K = X.K → D'.st = D.st → PTs Y ifs (RdT D' W0 t)) (hi1 : Blks X scope fun Y => ∀ D' : DC, D'.K = X.K → D'.st = D.st → DI D' W0 Y tg1 iter1 it1) (hg1 : Blks X scope fun Y => ∀ D' : DC, D'.K = X.K → D'.st = D.st → DG D' Y tg1 sl1 g1)
    (ht1 : Blks X scope fun Y => ∀ D' : DC, D'.K = X.K → D'.st = D.st → PTs Y ifs1 (RdT D' W0 t1)) (he : Blks X scope fun Y => ∀ D' : DC, D'.K = X.K → D'.st = D.st → DE D' W0 Y elt el) (htq : TQt t) (hiq : LQe it1) (htq1 : TQt t1) (heq : EQt el) (hv : ∀ i ∈ sl, i ∈ own.map (·.2)) (hv1 : ∀ i ∈ sl1, i ∈ vs1) (hvo : ∀ i ∈ vs1, i ∈ own.map (·.2))
    (hs : ∀ x, foldedSetIterable iter X.env x = pure x := by intro _; rfl) (hs1 : ∀ env x, foldedSetIterable iter1 env x = pure x := by intro _ _; rfl) :
    DS D Wx X (.Assign [.Name y py] (.ListComp elt [⟨tg, iter, ifs, 0⟩, ⟨tg1, iter1, ifs1, 0⟩] scope pos) spos) (sSet i (vOw (fComp2 it g t it1 g1 t1 el vs1 (own.map (·.2))))) :=
  PS.mono (ps_setLc2 hc hN hy hyl hsw hi ok hvo (g := gAny_ D sl g) (tt := tAny_ D t) (te := eAny_ D el) (wi1 := iAny_ D it1) (g1 := gAny_ D sl1 g1) (tt1 := tAny_ D t1)
    (fun s H C cl fp => ⟨fun pins s' σ H' v u Q I r ⟨D', hD, hS, h⟩ => (hg s H C cl fp D' (hD.trans hK) hS).pg.run pins s' σ H' v u Q I r h⟩)
    (fun s H C cl fp => ⟨fun pins s' σ H' Q I ⟨D', hD, hS, h⟩ => (ht s H C cl fp D' (hD.trans hK) hS).run pins s' σ H' Q I h⟩)
    (fun s H C cl fp => ⟨fun pins s' σ H' R I ⟨D', hD, hS, h⟩ => (hi1 s H C cl fp D' (hD.trans hK) hS).run pins s' σ H' R I h⟩)
    (fun s H C cl fp => ⟨fun pins s' σ H' v u Q I r ⟨D', hD, hS, h⟩ => (hg1 s H C cl fp D' (hD.trans hK) hS).pg.run pins s' σ H' v u Q I r h⟩)
    (fun s H C cl fp => ⟨fun pins s' σ H' Q I ⟨D', hD, hS, h⟩ => (ht1 s H C cl fp D' (hD.trans hK) hS).run pins s' σ H' Q I h⟩)
    (fun s H C cl fp => ⟨fun pins s' σ H' Q I ⟨D', hD, hS, h⟩ => (he s H C cl fp D' (hD.trans hK) hS).run pins s' σ H' Q I h⟩) hs hs1) fun Q σ H h => by
      obtain ⟨ca, ms, r, h1⟩ := set_of h
      exact comp2_of (hg X.s_0 X.H_0 0 [] [] D hK rfl).gq htq hiq (hg1 X.s_0 X.H_0 0 [] [] D hK rfl).gq htq1 heq hv hv1 hvo ⟨ca, ms, r, h1.ok⟩
end
end DL
namespace DL
open PySem PySem.Spec PyProof.Rows L2

/-! ### dicts of ints and texts -/
def toKey : W → Option Key
  | .int i => some (.inl i)
  | .str s => some (.inr s)
  | _ => none
theorem toKey_kW {w : W} {k : Key} (h : toKey w = some k) : w = kW k := by
  cases w <;> cases h <;> rfl
theorem kW_inj {a b : Key} (h : kW a = kW b) : a = b := by
  cases a <;> cases b <;> simp [kW] at h <;> rw [h]
theorem toKey_inv (k : Key) : toKey (kW k) = some k := by cases k <;> rfl
/-- the same key -/
def keq : W → W → Bool
  | .int i, .int j => decide (i = j)
  | .str s, .str t => decide (s = t)
  | _, _ => false
theorem keq_kW (a b : Key) : keq (kW a) (kW b) = decide (a = b) := by
  cases a <;> cases b <;> simp [keq, kW]
def lookW : List (W × W) → W → Option W
  | [], _ => none
  | (k, x) :: r, q => if keq k q = true then some x else lookW r q
def replW : List (W × W) → W → W → List (W × W)
  | [], _, _ => []
  | (k, x) :: r, q, y => if keq k q = true then (k, y) :: replW r q y else (k, x) :: replW r q y
def putW (kvs : List (W × W)) (k v : W) : List (W × W) := match lookW kvs k with
  | some _ => replW kvs k v
  | none => kvs ++ [(k, v)]
def mergeW (kvs : List (W × W)) : List (W × W) → List (W × W)
  | [] => kvs
  | (k, v) :: r => mergeW (putW kvs k v) r
theorem Rp.kv {K : PySem.W.Frag} {ca : CA} {H : Hp} {w : W} {v : V} {k : Key} (h : Rp K ca H w v) (e : toKey w = some k) : v = kV k := by
  cases w with
  | int i => cases e; exact h.int
  | str i => cases e; exact h.str
  | _ => cases e
theorem rp_kV {K : PySem.W.Frag} {ca : CA} {H : Hp} (k : Key) : Rp K ca H (kW k) (kV k) := by
  cases k <;> simp only [Rp, kW] <;> rfl
section
variable {K : PySem.W.Frag} {ca : CA} {H : Hp}
theorem RpKv.look : ∀ {kvs : List (W × W)} {ps : List (Key × V)} (k : Key), RpKv K ca H kvs ps → (lookW kvs (kW k) = none ∧ valV ps k = none) ∨ ∃ x v, lookW kvs (kW k) = some x ∧ valV ps k = some v ∧ Rp K ca H x v
  | [], ps, k, h => by
    simp only [RpKv] at h
    subst h
    exact .inl ⟨rfl, rfl⟩
  | (q, x) :: r, ps, k, h => by
    simp only [RpKv] at h
    obtain ⟨q', v, t, rfl, rfl, h1, h2⟩ := h
    unfold lookW
    rw [keq_kW]
    by_cases e : q' = k
    · rw [if_pos (by simpa using e), valV_pos e]
      exact .inr ⟨x, v, rfl, rfl, h1⟩
    · rw [if_neg (by simpa using e), valV_neg e]
      exact RpKv.look k h2
theorem RpKv.repl {y : W} {u : V} (hy : Rp K ca H y u) (k : Key) : ∀ {kvs : List (W × W)} {ps : List (Key × V)}, RpKv K ca H kvs ps → RpKv K ca H (replW kvs (kW k) y) (ps.map fun kv => if kv.1 = k then (kv.1, u) else kv)
  | [], ps, h => by
    simp only [RpKv] at h
    subst h
    simp [replW, RpKv]
  | (q, x) :: r, ps, h => by
    simp only [RpKv] at h
    obtain ⟨q', v, t, rfl, rfl, h1, h2⟩ := h
    unfold replW
    rw [keq_kW]
    by_cases e : q' = k
    · rw [if_pos (by simpa using e), List.map_cons, if_pos e]
      simp only [RpKv]
      exact ⟨q', u, _, rfl, rfl, hy, RpKv.repl hy k h2⟩
    · rw [if_neg (by simpa using e), List.map_cons, if_neg e]
      simp only [RpKv]
      exact ⟨q', v, _, rfl, rfl, h1, RpKv.repl hy k h2⟩
theorem RpKv.snoc {y : W} {u : V} (hy : Rp K ca H y u) (k : Key) : ∀ {kvs : List (W × W)} {ps : List (Key × V)}, RpKv K ca H kvs ps → RpKv K ca H (kvs ++ [(kW k, y)]) (ps ++ [(k, u)])
  | [], ps, h => by
    simp only [RpKv] at h
    subst h
    simp only [List.nil_append, RpKv]
    exact ⟨k, u, [], rfl, rfl, hy, rfl⟩
  | (q, x) :: r, ps, h => by
    simp only [RpKv] at h
    obtain ⟨q', v, t, rfl, rfl, h1, h2⟩ := h
    simp only [List.cons_append, RpKv]
    exact ⟨q', v, _, rfl, rfl, h1, RpKv.snoc hy k h2⟩
theorem RpKv.put {y : W} {u : V} (hy : Rp K ca H y u) (k : Key) {kvs : List (W × W)} {ps : List (Key × V)} (h : RpKv K ca H kvs ps) : RpKv K ca H (putW kvs (kW k) y) (putK ps k u) := by
  unfold putW putK
  rw [valV_any]
  rcases h.look k with ⟨e1, e2⟩ | ⟨x, v, e1, e2, _⟩
  · rw [e1, e2]
    simp only [Option.isSome_none, Bool.false_eq_true, if_false]
    exact h.snoc hy k
  · rw [e1, e2]
    simp only [Option.isSome_some, if_true]
    exact h.repl hy k
theorem RpKv.length : ∀ {kvs : List (W × W)} {ps : List (Key × V)}, RpKv K ca H kvs ps → ps.length = kvs.length
  | [], ps, h => by simp only [RpKv] at h; subst h; rfl
  | (q, x) :: r, ps, h => by
    simp only [RpKv] at h
    obtain ⟨q', v, t, rfl, rfl, h1, h2⟩ := h
    rw [List.length_cons, List.length_cons, RpKv.length h2]
theorem RpKv.merge : ∀ {more : List (W × W)} {qs : List (Key × V)} {kvs : List (W × W)} {ps : List (Key × V)}, RpKv K ca H kvs ps → RpKv K ca H more qs → RpKv K ca H (mergeW kvs more) (mergeK ps qs)
  | [], qs, kvs, ps, h, h' => by
    simp only [RpKv] at h'
    subst h'
    exact h
  | (q, x) :: r, qs, kvs, ps, h, h' => by
    simp only [RpKv] at h'
    obtain ⟨q', v, t, rfl, rfl, h1, h2⟩ := h'
    show RpKv K ca H (mergeW (putW kvs (kW q') x) r) (mergeK (putK ps q' v) t)
    exact RpKv.merge (RpKv.put h1 q' h) h2
end
/-! ### a new dict -/
def kNew : KM := fun m => .ok [] m
section
variable {D : DC} {Wx : WX} {X : Cx} {pos : Pos}
theorem dd_new : DD D Wx X (.Dict [] [] pos) kNew := PE.mono pe_dnewK fun σ H Q ⟨ca, ms, r, h⟩ => fun p np => h p [] ca H (.refl _ _) r np (by simp only [RpKv])
theorem pe_freezeK {e : Expr} {t : TE} (h : PE X e t) : PE X e (fun σ H Q => t σ H fun v H' => ∃ p vs, v = .ref p ∧ H' p = some (.dK vs) ∧ ∀ o, Q v (upd H' p (.frz o (.dK vs)))) :=
  ⟨fun pins s σ H Q I hw => thn (h.run pins s σ H _ I hw) fun u s1 ⟨v, H', I1, rv, p, vs, ev, hp, q⟩ => by
    obtain ⟨od, I2⟩ := I1.lock hp trivial
    exact ⟨v, _, I2, rv, q od⟩⟩
def eFzD (l : KM) : EM := fun m => (l m).bind fun ws m => .ok (.dict ws) m
theorem de_fzD {e : Expr} {mr : KM} (h : DD D Wx X e mr) : DE D Wx X e (eFzD mr) :=
  PE.mono (pe_freezeK h) fun σ H Q ⟨ca, ms, r, h⟩ => by
    refine ⟨ca, ms, r, ?_⟩
    unfold eFzD at h
    cases e : mr ms with
    | ok ws ms1 =>
      rw [e] at h
      refine fun p vs ca' H' x1 r1 np p1 => ⟨p, vs, rfl, upd_same, fun o => ?_⟩
      rw [upd_upd]
      have g : Same H' (upd H' p (.frz o (.dK vs))) := Same.upd_new np
      exact h _ ca' _ (x1.trans (.of_same g)) (r1.grow g) (by simp only [Rp]; exact .inr ⟨p, vs, rfl, ⟨o, upd_same⟩, RpKv.mono (.of_same g) _ _ p1⟩)
    | err c fs m => rw [e] at h; exact h
    | bad => rw [e] at h; exact h
end
/-! ### a dict comprehension -/
def kcompGo (g : GM) (t : TM) (ek el : EM) (env0 : List (Option Sl)) : List W → List (W × W) → List Cell → Option (List (W × W) × List Cell)
  | [], acc, cs => some (acc, cs)
  | x :: xs, acc, cs => match g x ⟨env0, cs⟩ with
    | .ok _ m2 => match t m2 with
      | .ok true m3 => match ek m3 with
        | .ok k m4 => match el m4 with
          | .ok y m5 => if (toKey k).isSome && szOk (acc.length + 1) then kcompGo g t ek el env0 xs (putW acc k y) m5.cells else none
          | _ => none
        | _ => none
      | .ok false m3 => kcompGo g t ek el env0 xs acc m3.cells
      | _ => none
    | _ => none
def kComp (it : LM) (g : GM) (t : TM) (ek el : EM) (own : List Nat) : KM := fun m => (it m).bind fun xs m => if ownFree m.env own = false then .bad else match kcompGo g t ek el (wipeE m.env own) xs [] m.cells with
  | some (ys, cs) => .ok ys { m with cells := cs }
  | none => .bad
theorem Mut_dK {vs : List (Key × V)} : Mut (some (.dK vs)) := trivial
theorem kcomp_of {D : DC} {Wx : WX} {it : LM} {g : GM} {t : TM} {ek el : EM} {sl own : List Nat} {σ : L2.St} {H : Hp} {Q : VK} (hgq : GQ sl g) (htq : TQt t) (hkq : EQt ek) (heq : EQt el) (hv : ∀ i ∈ sl, i ∈ own) (h : RdD D Wx (kComp it g t ek el own) σ H Q) :
    tDc (RdI D Wx it) (gAny_ D sl g) (tAny_ D t) (eAny_ D ek) (eAny_ D el) own σ H Q := by
  obtain ⟨ca, ms, r, h⟩ := h
  refine RdI.bind r h fun xs J ms1 ca1 H1 x1 r1 dw h1 => fun L hL => ?_
  by_cases hof : ownFree ms1.env own = false
  · rw [if_pos hof] at h1; exact h1.elim
  rw [if_neg hof] at h1
  split at h1
  case h_2 => exact h1.elim
  rename_i ys cs' ec
  have rw1 := r1.wipe own
  have hL0 := r1.not_ca0 hL
  have h0 := r1.h0_none hL
  generalize henv : wipeE ms1.env own = env0 at ec rw1
  have hw : ∀ i ∈ own, ∀ y, env0[i]? ≠ some (some y) := by subst henv; exact wipeE_at
  refine ⟨fun i m H => m = xs.length - i ∧ i ≤ xs.length ∧ ∃ cs dn, (∃ (ca : CA) (acc : List (Key × V)), Kp H1 H ∧ ca1 <+: ca ∧ Rel (D.guard L (.dK acc)) ca (L2.wipe σ own) H ⟨env0, cs⟩ ∧ RpKv D.K ca H dn acc) ∧ kcompGo g t ek el env0 (xs.drop i) dn cs = some (ys, cs'),
    ⟨xs.length, by simp, Nat.zero_le _, ms1.cells, [], ⟨ca1, [], .upd_new hL, List.prefix_refl _, rw1.guard hL, by simp only [RpKv]⟩, by simpa using ec⟩, ?_⟩
  rintro i m H ⟨rfl, hi, cs, dn, ⟨ca2, acc, kp, px, r, pa⟩, cg⟩
  by_cases hlt : i < xs.length
  · refine .inr ⟨dw.goes i H hlt kp, fun H' => ∃ cs dn, (∃ (ca : CA) (acc : List (Key × V)), Kp H1 H' ∧ ca1 <+: ca ∧ Rel (D.guard L (.dK acc)) ca (L2.wipe σ own) H' ⟨env0, cs⟩ ∧ RpKv D.K ca H' dn acc) ∧ kcompGo g t ek el env0 (xs.drop (i + 1)) dn cs = some (ys, cs'),
      fun H' p' => ⟨xs.length - (i + 1), by omega, rfl, hlt, p'⟩, fun x H' hy => ?_⟩
    have hx : xs[i]? = some xs[i] := by simp [hlt]
    obtain ⟨sm, px1⟩ := dw.yields i H x H' xs[i] kp hx hy
    rw [List.drop_eq_getElem_cons hlt] at cg
    have r2 := r.grow sm
    have pa2 : RpKv D.K ca2 H' dn acc := RpKv.mono (.of_same sm) _ _ pa
    have kp2 : Kp H1 H' := kp.trans (.of_same sm)
    have px2 : Rp D.K ca2 H' xs[i] x := Rp.mono ⟨.refl _, px⟩ _ _ px1
    unfold kcompGo at cg
    split at cg
    · rename_i u m2 eg
      refine ⟨D.guard L (.dK acc), rfl, rfl, ca2, _, xs[i], r2, px2, m2, eg, fun σ2 ca3 H2 hl2 hs2 x2 r3 => ⟨(wipe_eq hl2 hs2 hv).trans (wipe_wipe σ own), ?_⟩⟩
      have pa3 : RpKv D.K ca3 H2 dn acc := RpKv.mono x2 _ _ pa2
      split at cg
      · rename_i m3 et
        refine ⟨D.guard L (.dK acc), rfl, rfl, RdT.okk r3 et fun ca4 H3 x3 r4 => ?_⟩
        rw [if_pos rfl]
        split at cg
        · rename_i kw m4 ek'
          refine ⟨D.guard L (.dK acc), rfl, rfl, RdE.okk r4 ek' fun kv ca5 H4 x4 r5 p5 => ?_⟩
          split at cg
          · rename_i y m5 ey
            refine ⟨D.guard L (.dK acc), rfl, rfl, RdE.okk r5 ey fun yv ca6 H5 x5 r6 p6 => ?_⟩
            split at cg
            · rename_i hk
              rw [Bool.and_eq_true] at hk
              obtain ⟨k, hk1⟩ := Option.isSome_iff_exists.mp hk.1
              have hz := szOk_le hk.2
              have ekv := p5.kv hk1
              have ekw := toKey_kW hk1
              have pa6 : RpKv D.K ca6 H5 dn acc := RpKv.mono (x3.trans (x4.trans x5)) _ _ pa3
              refine ⟨acc, k, ekv, r6.at_guard hL0, by have := pa6.length; omega, ?_⟩
              have hb : Rel (D.guard L (.dK acc)) ca6 (L2.wipe σ own) H5 ⟨env0, m5.cells⟩ := r2.turned r6 (x2.trans (x3.trans (x4.trans x5))) hs2 (fun i hi => by rw [heq _ _ _ ey, hkq _ _ _ ek', htq _ _ _ et]; exact hgq _ _ _ eg i hi) hv hw
              have x7 : Kp H5 (upd H5 L (.dK (putK acc k yv))) := Kp.upd_mut (r6.at_guard hL0) Mut_dK
              rw [ekw] at cg
              exact ⟨m5.cells, _, ⟨ca6, putK acc k yv, kp2.trans ((x2.trans (x3.trans (x4.trans x5))).kp.trans x7), px.trans (x2.trans (x3.trans (x4.trans x5))).pre, hb.reguard hL0 Mut_dK, RpKv.mono ⟨x7, List.prefix_refl _⟩ _ _ (pa6.put p6 k)⟩, cg⟩
            · cases cg
          · cases cg
        · cases cg
      · rename_i m3 et
        refine ⟨D.guard L (.dK acc), rfl, rfl, RdT.okk r3 et fun ca4 H3 x3 r4 => ?_⟩
        rw [if_neg (by decide)]
        have hb : Rel (D.guard L (.dK acc)) ca4 (L2.wipe σ own) H3 ⟨env0, m3.cells⟩ := r2.turned r4 (x2.trans x3) hs2 (fun i hi => by rw [htq _ _ _ et]; exact hgq _ _ _ eg i hi) hv hw
        exact ⟨m3.cells, dn, ⟨ca4, acc, kp2.trans (x2.trans x3).kp, px.trans (x2.trans x3).pre, hb, RpKv.mono x3 _ _ pa3⟩, cg⟩
      · cases cg
    · cases cg
  · have e : i = xs.length := by omega
    subst e
    rw [List.drop_length] at cg
    unfold kcompGo at cg
    cases cg
    refine .inl ⟨dw.stops H kp, ?_⟩
    have r3 := r.ungrow hL0 h0 Mut_dK
    have ke : Kp H (erase H L) := .erase (r.at_guard hL0) Mut_dK
    have xx : Ext ca1 H1 ca2 (erase H L) := ⟨kp.trans ke, px⟩
    have r4 : Rel D ca2 σ (erase H L) ⟨ms1.env, cs'⟩ := r1.back r3 xx fun i y e1 e2 => by
      have hi : i ∉ own := fun z => by rw [ownFree_at hof i z] at e1; cases e1
      refine ⟨?_, wipe_keep hi⟩
      show env0[i]? = _
      rw [← e2, ← henv]
      exact wipeE_keep hi
    have := h1 L acc ca2 (erase H L) (x1.trans xx) r4 erase_same (RpKv.mono ⟨ke, List.prefix_refl _⟩ _ _ pa)
    rw [upd_erase (r.at_guard hL0)] at this
    exact this
section
variable {D : DC} {Wx : WX} {X : Cx} {kx vx tg iter : Expr} {ifs : List Expr} {scope : Scope} {own : List (Str × Nat)} {sl : List Nat} {pos : Pos} {it : LM} {g : GM} {t : TM} {ek el : EM}
theorem dd_comp (hK : D.K = X.K) (hc : X.calm = true) (hN : X.N.Nodup) (hi : DI D Wx X tg iter it) (ok : BlkOk X.N X.env.scope scope own) (hg : Blks X scope fun Y => ∀ D' : DC, D'.K = X.K → D'.st = D.st → DG D' Y tg sl g)
    (ht : Blks X scope fun Y => ∀ D' : DC, D'.K = X.K → D'.st = D.st → PTs Y ifs (RdT D' W0 t)) (hk : Blks X scope fun Y => ∀ D' : DC, D'.K = X.K → D'.st = D.st → DE D' W0 Y kx ek) (he : Blks X scope fun Y => ∀ D' : DC, D'.K = X.K → D'.st = D.st → DE D' W0 Y vx el) (htq : TQt t) (hkq : EQt ek) (heq : EQt el) (hv : ∀ i ∈ sl, i ∈ own.map (·.2)) (hs : ∀ x, foldedSetIterable iter X.env x = pure x := by intro _; rfl) :
    DD D Wx X (.DictComp kx vx [⟨tg, iter, ifs, 0⟩] scope pos) (kComp it g t ek el (own.map (·.2))) :=
  PE.mono (pe_dc hc hN hi ok (g := gAny_ D sl g) (tt := tAny_ D t) (tk := eAny_ D ek) (tv := eAny_ D el)
    (fun s H C cl fp => ⟨fun pins s' σ H' v u Q I r ⟨D', hD, hS, h⟩ => (hg s H C cl fp D' (hD.trans hK) hS).pg.run pins s' σ H' v u Q I r h⟩)
    (fun s H C cl fp => ⟨fun pins s' σ H' Q I ⟨D', hD, hS, h⟩ => (ht s H C cl fp D' (hD.trans hK) hS).run pins s' σ H' Q I h⟩)
    (fun s H C cl fp => ⟨fun pins s' σ H' Q I ⟨D', hD, hS, h⟩ => (hk s H C cl fp D' (hD.trans hK) hS).run pins s' σ H' Q I h⟩)
    (fun s H C cl fp => ⟨fun pins s' σ H' Q I ⟨D', hD, hS, h⟩ => (he s H C cl fp D' (hD.trans hK) hS).run pins s' σ H' Q I h⟩) hs) fun σ H Q h => kcomp_of (hg X.s_0 X.H_0 0 [] [] D hK rfl).gq htq hkq heq hv h
end
end DL
namespace DL
open PySem PySem.Spec PyProof.Rows L2

/-! ### >, <=, >= of data that are alike -/
section
open PySem.W
def cmpOk (a b : W) : Bool := alike a b && !isNone a && shallow a b && a.canLay0 && b.canLay0
def gGt : W → W → Option W
  | .int a, .int b => some (.bool (decide (b < a)))
  | a, b => if cmpOk a b = true then some (.bool (dataLt b a)) else none
def gLe : W → W → Option W
  | .int a, .int b => some (.bool (decide (a ≤ b)))
  | a, b => if cmpOk a b = true then some (.bool (!dataLt b a)) else none
def gGe : W → W → Option W
  | .int a, .int b => some (.bool (decide (b ≤ a)))
  | a, b => if cmpOk a b = true then some (.bool (!dataLt a b)) else none
variable {D : DC} {X : Cx}
theorem cmpOk_reads (hK : D.K = X.K) {pins : List (Addr × Obj)} {s : Shared} {σ : L2.St} {ca : CA} {H : Hp} {x y : V} {u1 u2 : Value} {wx wy : W} (I : Inv X pins σ H s) (r1 : RelV x u1) (r2 : RelV y u2) (p1 : Rp D.K ca H wx x) (p2 : Rp D.K ca H wy y) (h : cmpOk wx wy = true) :
    ∃ as bs, Reads s.heap u1 wx as ∧ Reads s.heap u2 wy bs ∧ alike wx wy = true ∧ wx ≠ .none ∧ min wx.depth wy.depth ≤ 60 := by
  unfold cmpOk at h
  simp only [Bool.and_eq_true] at h
  obtain ⟨⟨⟨⟨ha, hn⟩, hs⟩, c1⟩, c2⟩ := h
  rw [hK] at p1 p2
  obtain ⟨as, q1⟩ := Dp.reads I wx x u1 (Rp.dp wx x c1 p1) r1
  obtain ⟨bs, q2⟩ := Dp.reads I wy y u2 (Rp.dp wy y c2 p2) r2
  exact ⟨as, bs, q1, q2, ha, fun z => by subst z; simp [isNone] at hn, shallow_min hs⟩
theorem dop_gt (hK : D.K = X.K) (hu : X.A.units + 64 < cLine) : DOp D X (compareOp .Gt) gGt := fun pins s σ ca H x y u1 u2 wx wy w Q I r1 r2 p1 p2 e q => by
  have gen : (if cmpOk wx wy = true then some (PyData.bool (dataLt wy wx)) else none) = some w → wpAny (model X.prog X.w) X.A (compareOp .Gt u1 u2) (EP X pins σ Q) X.xe s := fun e => by
    by_cases hc : cmpOk wx wy = true
    · rw [if_pos hc] at e
      cases e
      obtain ⟨as, bs, q1, q2, ha, hn, hm⟩ := cmpOk_reads hK I r1 r2 p1 p2 hc
      exact gt_data q1 q2 ha hn (by omega) ⟨.bl _, H, I, rfl, q _ H (fun _ _ h => h) rp_bool⟩
    · rw [if_neg hc] at e; cases e
  cases wx with
  | int i => cases wy with
    | int j =>
      have e : some (PyData.bool (decide (j < i))) = some w := e
      cases e
      exact op_gt pins s σ H x y u1 u2 Q I r1 r2 ⟨i, j, p1.int, p2.int, q _ H (fun _ _ h => h) rp_bool⟩
    | _ => exact gen (by simpa only [gGt] using e)
  | _ => exact gen (by simpa only [gGt] using e)
theorem dop_le (hK : D.K = X.K) (hu : X.A.units + 64 < cLine) : DOp D X (compareOp .LtE) gLe := fun pins s σ ca H x y u1 u2 wx wy w Q I r1 r2 p1 p2 e q => by
  have gen : (if cmpOk wx wy = true then some (PyData.bool (!dataLt wy wx)) else none) = some w → wpAny (model X.prog X.w) X.A (compareOp .LtE u1 u2) (EP X pins σ Q) X.xe s := fun e => by
    by_cases hc : cmpOk wx wy = true
    · rw [if_pos hc] at e
      cases e
      obtain ⟨as, bs, q1, q2, ha, hn, hm⟩ := cmpOk_reads hK I r1 r2 p1 p2 hc
      exact le_data q1 q2 ha hn (by omega) ⟨.bl _, H, I, rfl, q _ H (fun _ _ h => h) rp_bool⟩
    · rw [if_neg hc] at e; cases e
  cases wx with
  | int i => cases wy with
    | int j =>
      have e : some (PyData.bool (decide (i ≤ j))) = some w := e
      cases e
      exact op_le pins s σ H x y u1 u2 Q I r1 r2 ⟨i, j, p1.int, p2.int, q _ H (fun _ _ h => h) rp_bool⟩
    | _ => exact gen (by simpa only [gLe] using e)
  | _ => exact gen (by simpa only [gLe] using e)
theorem dop_ge (hK : D.K = X.K) (hu : X.A.units + 64 < cLine) : DOp D X (compareOp .GtE) gGe := fun pins s σ ca H x y u1 u2 wx wy w Q I r1 r2 p1 p2 e q => by
  have gen : (if cmpOk wx wy = true then some (PyData.bool (!dataLt wx wy)) else none) = some w → wpAny (model X.prog X.w) X.A (compareOp .GtE u1 u2) (EP X pins σ Q) X.xe s := fun e => by
    by_cases hc : cmpOk wx wy = true
    · rw [if_pos hc] at e
      cases e
      obtain ⟨as, bs, q1, q2, ha, hn, hm⟩ := cmpOk_reads hK I r1 r2 p1 p2 hc
      exact ge_data q1 q2 ha hn (by omega) ⟨.bl _, H, I, rfl, q _ H (fun _ _ h => h) rp_bool⟩
    · rw [if_neg hc] at e; cases e
  cases wx with
  | int i => cases wy with
    | int j =>
      have e : some (PyData.bool (decide (j ≤ i))) = some w := e
      cases e
      exact op_ge pins s σ H x y u1 u2 Q I r1 r2 ⟨i, j, p1.int, p2.int, q _ H (fun _ _ h => h) rp_bool⟩
    | _ => exact gen (by simpa only [gGe] using e)
  | _ => exact gen (by simpa only [gGe] using e)
/-! ### min and max of a list or a tuple of alike data -/
def alikeL (xs : List W) : Bool := xs.all fun x => (xs.all fun y => alike x y) && !isNone x && x.canLay0
def mmOk (xs : List W) : Bool := alikeL xs && Nat.ble (PyData.depthAll xs) 60
theorem alikeL_ok {xs : List W} (h : alikeL xs = true) : AlikeAll xs ∧ PyData.canLayAll0 xs = true := by
  unfold alikeL at h
  rw [List.all_eq_true] at h
  refine ⟨⟨fun x hx y hy => ?_, fun x hx z => ?_⟩, ?_⟩
  · have := h x hx
    simp only [Bool.and_eq_true, List.all_eq_true] at this
    exact this.1.1 y hy
  · have := h x hx
    subst z
    simp [isNone] at this
  · have all : ∀ l : List W, (∀ x ∈ l, x.canLay0 = true) → PyData.canLayAll0 l = true := fun l => by
      induction l with
      | nil => intro _; rfl
      | cons y ys ih =>
        intro hh
        rw [PyData.canLayAll0, hh y (by simp), ih fun x hx => hh x (by simp [hx])]
        rfl
    exact all xs fun x hx => by
      have := h x hx
      simp only [Bool.and_eq_true] at this
      exact this.2
def gMinL : List W → Option W
  | [.list (x :: xs)] => if mmOk (x :: xs) = true then some (minD x xs) else none
  | [.tuple (x :: xs)] => if mmOk (x :: xs) = true then some (minD x xs) else none
  | _ => none
def gMaxL : List W → Option W
  | [.list (x :: xs)] => if mmOk (x :: xs) = true then some (maxD x xs) else none
  | [.tuple (x :: xs)] => if mmOk (x :: xs) = true then some (maxD x xs) else none
  | _ => none
theorem DpAll.readsL {pins : List (Addr × Obj)} {σ : L2.St} {H : Hp} {s : Shared} (I : Inv X pins σ H s) : ∀ {ds : List W} {vs : List V} {us : List Value}, DpAll X.K H vs ds → Vals vs us → ∃ as, ReadsAll s.heap us ds as
  | _, _, _, .nil, .nil => ⟨[], .nil⟩
  | _, _, _, .cons h t, .cons r rs => by
    obtain ⟨as, q⟩ := Dp.reads I _ _ _ h r
    obtain ⟨bs, q2⟩ := DpAll.readsL I t rs
    exact ⟨_, .cons q q2⟩
/-- an item that reads as d stands for d -/
theorem item_back {pins : List (Addr × Obj)} {σ : L2.St} {H : Hp} {s : Shared} {ca : CA} {xs : List W} {vs : List V} {us : List Value} {i : Nat} {v : Value} {d : W} {h' : Heap} {bs : List Addr} (I : Inv X pins σ H s) (c : PyData.canLayAll0 xs = true) (ra : RpAll X.K ca H xs vs) (rv : Vals vs us) (hv : us[i]? = some v)
    (hk : ∀ b o, s.heap.get? b = some o → h'.get? b = some o) (hr : Reads h' v d bs) : ∃ x, RelV x v ∧ Rp X.K ca H d x := by
  have hi : i < us.length := by
    rcases Nat.lt_or_ge i us.length with h | h
    · exact h
    · rw [List.getElem?_eq_none h] at hv; cases hv
  obtain ⟨x, hx⟩ : ∃ x, vs[i]? = some x := ⟨_, List.getElem?_eq_getElem (by rw [rv.length]; exact hi)⟩
  obtain ⟨v', hv', rx⟩ := rv.get hx
  rw [hv] at hv'
  cases hv'
  obtain ⟨w, hw, pw⟩ := ra.get' hx
  have cw : w.canLay0 = true := by
    have all : ∀ l : List W, PyData.canLayAll0 l = true → ∀ x ∈ l, x.canLay0 = true := fun l => by
      induction l with
      | nil => intro _ x hx; cases hx
      | cons y ys ih =>
        intro hh x hx
        rw [PyData.canLayAll0, Bool.and_eq_true] at hh
        rcases List.mem_cons.mp hx with e | e
        · rw [e]; exact hh.1
        · exact ih hh.2 x e
    exact all xs c w (List.mem_of_getElem? hw)
  obtain ⟨as, q⟩ := Dp.reads I w x v (Rp.dp w x cw pw) rx
  have e := (reads_det (h := h') (h' := h') (fun _ _ e _ => e) (PyProof.Rows.Reads.keeps hk q) hr).1
  rw [e]
  exact ⟨x, rx, pw⟩
theorem tup_is {h : Heap} {a : Addr} {its : List Value} (x : IsTup h a its.toArray) : h.IsTuple a its.toArray := by
  obtain ⟨o, e, c, n, d⟩ := x
  exact ⟨o, e, c, n, d⟩
theorem dc_minL (hK : D.K = X.K) (hc : X.calm = true) (hu : X.A.units + 64 < cLine) : DCall D X (.builtin "min") gMinL := fun pins s σ ca H xs us ws w Q I r1 p1 e q => by
  unfold gMinL at e
  split at e
  · rename_i x t
    by_cases hz : mmOk (x :: t) = true
    · rw [if_pos hz] at e
      cases e
      unfold mmOk at hz
      rw [Bool.and_eq_true] at hz
      obtain ⟨al, cl⟩ := alikeL_ok hz.1
      have hd := Nat.le_of_ble_eq_true hz.2
      rw [hK] at p1
      obtain ⟨v, rfl, h1⟩ := p1.inv1
      obtain ⟨a, vs, rfl, f, ra⟩ := h1.lst
      obtain ⟨u, rfl, ru⟩ := r1.one
      cases ru
      obtain ⟨its, rv, hl, _⟩ := I.list f.sq
      obtain ⟨as, rr⟩ := DpAll.readsL I (RpAll.dp _ _ cl ra) rv
      refine min_list_data (I.ok.hd hc) hl.isList (by simpa using rr) al (by omega) fun i v h' tk bs hv hr hk => ?_
      obtain ⟨x', rx, px⟩ := item_back (us := its) I cl ra rv (by simpa using hv) hk hr
      exact ⟨x', H, I.kept hk, rx, q x' H (fun _ _ h => h) (by rw [hK]; exact px)⟩
    · rw [if_neg hz] at e; cases e
  · rename_i x t
    by_cases hz : mmOk (x :: t) = true
    · rw [if_pos hz] at e
      cases e
      unfold mmOk at hz
      rw [Bool.and_eq_true] at hz
      obtain ⟨al, cl⟩ := alikeL_ok hz.1
      have hd := Nat.le_of_ble_eq_true hz.2
      rw [hK] at p1
      obtain ⟨v, rfl, h1⟩ := p1.inv1
      obtain ⟨a, vs, rfl, f, ra⟩ := h1.tup
      obtain ⟨u, rfl, ru⟩ := r1.one
      cases ru
      obtain ⟨its, rv, hl, _⟩ := I.tuple f.sq
      obtain ⟨as, rr⟩ := DpAll.readsL I (RpAll.dp _ _ cl ra) rv
      refine min_tuple_data (I.ok.hd hc) (tup_is hl) (by simpa using rr) al (by omega) fun i v h' tk bs hv hr hk => ?_
      obtain ⟨x', rx, px⟩ := item_back (us := its) I cl ra rv (by simpa using hv) hk hr
      exact ⟨x', H, I.kept hk, rx, q x' H (fun _ _ h => h) (by rw [hK]; exact px)⟩
    · rw [if_neg hz] at e; cases e
  · cases e
theorem dc_maxL (hK : D.K = X.K) (hc : X.calm = true) (hu : X.A.units + 64 < cLine) : DCall D X (.builtin "max") gMaxL := fun pins s σ ca H xs us ws w Q I r1 p1 e q => by
  unfold gMaxL at e
  split at e
  · rename_i x t
    by_cases hz : mmOk (x :: t) = true
    · rw [if_pos hz] at e
      cases e
      unfold mmOk at hz
      rw [Bool.and_eq_true] at hz
      obtain ⟨al, cl⟩ := alikeL_ok hz.1
      have hd := Nat.le_of_ble_eq_true hz.2
      rw [hK] at p1
      obtain ⟨v, rfl, h1⟩ := p1.inv1
      obtain ⟨a, vs, rfl, f, ra⟩ := h1.lst
      obtain ⟨u, rfl, ru⟩ := r1.one
      cases ru
      obtain ⟨its, rv, hl, _⟩ := I.list f.sq
      obtain ⟨as, rr⟩ := DpAll.readsL I (RpAll.dp _ _ cl ra) rv
      refine max_list_data (I.ok.hd hc) hl.isList (by simpa using rr) al (by omega) fun i v h' tk bs hv hr hk => ?_
      obtain ⟨x', rx, px⟩ := item_back (us := its) I cl ra rv (by simpa using hv) hk hr
      exact ⟨x', H, I.kept hk, rx, q x' H (fun _ _ h => h) (by rw [hK]; exact px)⟩
    · rw [if_neg hz] at e; cases e
  · rename_i x t
    by_cases hz : mmOk (x :: t) = true
    · rw [if_pos hz] at e
      cases e
      unfold mmOk at hz
      rw [Bool.and_eq_true] at hz
      obtain ⟨al, cl⟩ := alikeL_ok hz.1
      have hd := Nat.le_of_ble_eq_true hz.2
      rw [hK] at p1
      obtain ⟨v, rfl, h1⟩ := p1.inv1
      obtain ⟨a, vs, rfl, f, ra⟩ := h1.tup
      obtain ⟨u, rfl, ru⟩ := r1.one
      cases ru
      obtain ⟨its, rv, hl, _⟩ := I.tuple f.sq
      obtain ⟨as, rr⟩ := DpAll.readsL I (RpAll.dp _ _ cl ra) rv
      refine max_tuple_data (I.ok.hd hc) (tup_is hl) (by simpa using rr) al (by omega) fun i v h' tk bs hv hr hk => ?_
      obtain ⟨x', rx, px⟩ := item_back (us := its) I cl ra rv (by simpa using hv) hk hr
      exact ⟨x', H, I.kept hk, rx, q x' H (fun _ _ h => h) (by rw [hK]; exact px)⟩
    · rw [if_neg hz] at e; cases e
  · cases e
end
/-! ### sorted ints; the keys of a dict -/
def insI (x : Int) : List Int → List Int
  | [] => [x]
  | y :: ys => if x ≤ y then x :: y :: ys else y :: insI x ys
def isortI : List Int → List Int
  | [] => []
  | x :: xs => insI x (isortI xs)
theorem insI_perm (x : Int) : ∀ ys, (insI x ys).Perm (x :: ys)
  | [] => List.Perm.refl _
  | y :: ys => by
    unfold insI
    split
    · exact List.Perm.refl _
    · exact (List.Perm.cons y (insI_perm x ys)).trans (List.Perm.swap x y ys)
theorem isortI_perm : ∀ xs, (isortI xs).Perm xs
  | [] => List.Perm.refl _
  | x :: xs => (insI_perm x _).trans (List.Perm.cons x (isortI_perm xs))
theorem insI_sorted {x : Int} : ∀ {ys : List Int}, ys.Pairwise (· ≤ ·) → (insI x ys).Pairwise (· ≤ ·)
  | [], _ => List.pairwise_singleton _ _
  | y :: ys, h => by
    obtain ⟨h1, h2⟩ := List.pairwise_cons.mp h
    unfold insI
    split
    · rename_i hxy
      refine List.pairwise_cons.mpr ⟨fun z hz => ?_, h⟩
      rcases List.mem_cons.mp hz with rfl | hz
      · exact hxy
      · exact Int.le_trans hxy (h1 z hz)
    · rename_i hxy
      refine List.pairwise_cons.mpr ⟨fun z hz => ?_, insI_sorted h2⟩
      rcases List.mem_cons.mp ((insI_perm x ys).mem_iff.mp hz) with rfl | hz
      · omega
      · exact h1 z hz
theorem isortI_sorted : ∀ xs : List Int, (isortI xs).Pairwise (· ≤ ·)
  | [] => List.Pairwise.nil
  | x :: xs => insI_sorted (isortI_sorted xs)
theorem sorted_uniqI : ∀ {xs ys : List Int}, xs.Pairwise (· ≤ ·) → ys.Pairwise (· ≤ ·) → xs.Perm ys → xs = ys
  | [], ys, _, _, p => (List.Perm.nil_eq p)
  | x :: xs, [], _, _, p => absurd p.length_eq (by simp)
  | x :: xs, y :: ys, h1, h2, p => by
    obtain ⟨a1, a2⟩ := List.pairwise_cons.mp h1
    obtain ⟨b1, b2⟩ := List.pairwise_cons.mp h2
    have e : x = y := by
      have m1 : x ∈ y :: ys := p.mem_iff.mp (by simp)
      have m2 : y ∈ x :: xs := p.mem_iff.mpr (by simp)
      rcases List.mem_cons.mp m1 with e | m1
      · exact e
      · rcases List.mem_cons.mp m2 with e | m2
        · exact e.symm
        · have := a1 y m2
          have := b1 x m1
          omega
    subst e
    rw [sorted_uniqI a2 b2 (List.Perm.cons_inv p)]
def gSortI : List W → Option (List W)
  | [.list xs] => (intsOf xs).map fun ns => (isortI ns).map PyData.int
  | _ => none
def keysW (kvs : List (W × W)) : List W := kvs.map (·.1)
def hndB (kvs : List (W × W)) : Bool := kvs.all fun kv => (toKey kv.1).isSome
def gKeys : List W → Option (List W)
  | [.dict kvs] => if hndB kvs = true then some (keysW kvs) else none
  | _ => none
section
variable {D : DC} {Wx : WX} {X : Cx}
theorem dc_sortI (hK : D.K = X.K) (hc : X.calm = true) : DCallF D X (.builtin "sorted") gSortI := dcallF_of cr_sortedI fun ca H xs ws w Q p1 e q => by
  unfold gSortI at e
  split at e
  · obtain ⟨v, rfl, h1⟩ := p1.inv1
    obtain ⟨a, vs, rfl, f, r⟩ := h1.lst
    obtain ⟨ns, e1, rfl⟩ := Option.map_eq_some_iff.mp e
    refine ⟨a, ns, rfl, by rw [← intsOf_rp r e1, ← hK]; exact f.sq, fun ns' p h1 h2 np => ?_⟩
    have e2 : ns' = isortI ns := sorted_uniqI h2 (isortI_sorted ns) (h1.trans (isortI_perm ns).symm)
    subst e2
    exact q p _ np rp_ints
  · cases e
/-- a dict that is one -/
theorem Rp.fzd {K : PySem.W.Frag} {ca : CA} {H : Hp} {kvs : List (W × W)} {v : V} (h : Rp K ca H (.dict kvs) v) (hn : hndB kvs = true) : ∃ a ps, v = .ref a ∧ FzD K H a ps ∧ RpKv K ca H kvs ps := by
  simp only [Rp] at h
  rcases h with ⟨k, a, as, rfl, _, _⟩ | h
  · simp [hndB, toKey] at hn
  · exact h
theorem FzD.rd {K : PySem.W.Frag} {H : Hp} {a : Addr} {ps : List (Key × V)} (h : FzD K H a ps) : Rd H a (.dK ps) := let ⟨o, h⟩ := h; .inr ⟨o, h⟩
theorem RpKv.keys {K : PySem.W.Frag} {ca : CA} {H : Hp} : ∀ {kvs : List (W × W)} {ps : List (Key × V)}, RpKv K ca H kvs ps → RpAll K ca H (keysW kvs) (ps.map fun kv => kV kv.1)
  | [], ps, h => by simp only [RpKv] at h; subst h; simp [keysW, RpAll]
  | (k, x) :: r, ps, h => by
    simp only [RpKv] at h
    obtain ⟨q', v, t, rfl, rfl, h1, h2⟩ := h
    simp only [keysW, List.map_cons, RpAll]
    exact ⟨_, _, rfl, rp_kV q', RpKv.keys h2⟩
theorem dc_keys (hc : X.calm = true) : DCallF D X (.type "list") gKeys := dcallF_of (call_listD hc) fun ca H xs ws w Q p1 e q => by
  unfold gKeys at e
  split at e
  · rename_i kvs
    by_cases hn : hndB kvs = true
    · rw [if_pos hn] at e
      cases e
      obtain ⟨v, rfl, h1⟩ := p1.inv1
      obtain ⟨a, ps, rfl, f, r⟩ := h1.fzd hn
      exact ⟨a, ps, rfl, f.rd, fun p np => q p _ np r.keys⟩
    · rw [if_neg hn] at e; cases e
  · cases e
/-! ### what a dict holds -/
def dixW : W → W → Option W
  | .dict kvs, k => if (hndB kvs && (toKey k).isSome) = true then lookW kvs k else none
  | _, _ => none
theorem dixW_inv {a b w : W} (h : dixW a b = some w) : ∃ kvs, a = .dict kvs ∧ hndB kvs = true ∧ (toKey b).isSome = true ∧ lookW kvs b = some w := by
  unfold dixW at h
  split at h
  · rename_i kvs
    by_cases hn : (hndB kvs && (toKey b).isSome) = true
    · rw [if_pos hn] at h
      rw [Bool.and_eq_true] at hn
      exact ⟨kvs, rfl, hn.1, hn.2, h⟩
    · rw [if_neg hn] at h; cases h
  · cases h
theorem RpKv.dget {K : PySem.W.Frag} {ca : CA} {H : Hp} {kvs : List (W × W)} {a : Addr} {ps : List (Key × V)} {wk : W} {y : V} (f : FzD K H a ps) (r : RpKv K ca H kvs ps) (py : Rp K ca H wk y) (hk : (toKey wk).isSome = true) :
    ∃ o, DGet H a y o ∧ ((lookW kvs wk = none ∧ o = none) ∨ ∃ x v, lookW kvs wk = some x ∧ o = some v ∧ Rp K ca H x v) := by
  obtain ⟨k, hk⟩ := Option.isSome_iff_exists.mp hk
  have e1 := toKey_kW hk
  subst e1
  have e2 := py.kv hk
  refine ⟨valV ps k, .inl ⟨ps, k, f.rd, e2, rfl⟩, ?_⟩
  rcases r.look k with ⟨h1, h2⟩ | ⟨x, v, h1, h2, h3⟩
  · exact .inl ⟨h1, h2⟩
  · exact .inr ⟨x, v, h1, h2, h3⟩
theorem ix_dict (hu : X.A.units + 1 < cLine) : IxR X (fun x y H Q => ∃ a v, x = .ref a ∧ DGet H a y (some v) ∧ Q v H) := by
  intro value slice pins s σ H x y v u Q I rx ry h hs
  obtain ⟨a, w, rfl, g, q⟩ := h
  cases rx
  exact tail_any (dict_typeIs I g) slot_dict_getitem.lookup (d_getItem hu I g ry fun w' s' I' r' => ⟨w, H, I', r', q⟩) hs
def ixW (a b : W) : Option W := (atW a b).or (dixW a b)
theorem de_ixD {a b : Expr} {ma mb : EM} {pos : Pos} (hK : D.K = X.K) (hu : X.A.units + 1 < cLine) (ha : DE D Wx X a ma) (hb : DE D Wx X b mb) (hs : PlainIx b) : DE D Wx X (.Subscript a b pos) (eBin ixW ma mb) :=
  PE.mono (pe_ix (ix_seq.or (ix_dict hu)) ha hb hs) fun σ H Q h => by
    obtain ⟨ca, ms, r, h⟩ := h
    refine RdE.bind r h fun wx x ms1 ca1 H1 x1 r1 p1 h1 => RdE.bind r1 (h1.ext x1) fun wy y ms2 ca2 H2 x2 r2 p2 h2 => ?_
    obtain ⟨w, e, q⟩ := Po.opt h2
    have p1 := Rp.mono x2 _ _ p1
    have fin : ∀ v, Rp D.K ca2 H2 w v → Q v H2 := fun v pv => q v ca2 H2 (x1.trans x2) r2 pv
    unfold ixW at e
    cases e1 : atW wx wy with
    | none =>
      rw [e1] at e
      obtain ⟨kvs, rfl, hn1, hn2, hl⟩ := dixW_inv (show dixW wx wy = some w from e)
      obtain ⟨a, ps, rfl, f, rk⟩ := p1.fzd hn1
      obtain ⟨o, g, h⟩ := rk.dget f p2 hn2
      rcases h with ⟨h1, _⟩ | ⟨x, v, h1, rfl, h3⟩
      · rw [hl] at h1; cases h1
      · rw [hl] at h1
        cases h1
        exact .inr ⟨a, v, rfl, g, fin v h3⟩
    | some w' =>
      rw [e1] at e
      cases e
      cases wy with
      | int i =>
        obtain rfl := p2.int
        cases wx with
        | tuple xs =>
          obtain ⟨p, vs, rfl, f, ra⟩ := p1.tup
          obtain ⟨v, e3, e4⟩ := ra.atI e1
          exact .inl (.inr (.inl ⟨p, vs, i, v, rfl, rfl, by rw [← hK]; exact f.sq, e3, fin v e4⟩))
        | list xs =>
          obtain ⟨p, vs, rfl, f, ra⟩ := p1.lst
          obtain ⟨v, e3, e4⟩ := ra.atI e1
          exact .inl (.inl ⟨p, vs, i, v, rfl, rfl, by rw [← hK]; exact f.sq, e3, fin v e4⟩)
        | str z =>
          have e' : (if szOk z.length = true then (L2.atI z.cps.toList i).map fun c => PyData.str ⟨#[c]⟩ else none) = some w := e1
          by_cases hz : szOk z.length = true
          · rw [if_pos hz] at e'
            obtain ⟨c, e3, rfl⟩ := Option.map_eq_some_iff.mp e'
            obtain rfl := p1.str
            exact .inl (.inr (.inr ⟨z, i, c, rfl, rfl, szOk_le hz, e3, fin _ rp_str⟩))
          · rw [if_neg hz] at e'; cases e'
        | _ => cases e1
      | _ => cases wx <;> cases e1
def inD : W → W → Option Bool
  | k, .dict kvs => if (hndB kvs && (toKey k).isSome) = true then some (lookW kvs k).isSome else none
  | _, _ => none
def gInA (a b : W) : Option W := (gIn a b).or ((inD a b).map .bool)
def gNotInA (a b : W) : Option W := (gNotIn a b).or ((inD a b).map fun k => .bool (!k))
theorem inD_run {ca : CA} {H : Hp} {x y : V} {u2 : Value} {wx wy : W} {k : Bool} (r2 : RelV y u2) (p1 : Rp D.K ca H wx x) (p2 : Rp D.K ca H wy y) (e : inD wx wy = some k) : ∃ a o, u2 = .ref a ∧ DGet H a x o ∧ o.isSome = k := by
  unfold inD at e
  split at e
  · rename_i kvs
    by_cases hn : (hndB kvs && (toKey wx).isSome) = true
    · rw [if_pos hn] at e
      cases e
      rw [Bool.and_eq_true] at hn
      obtain ⟨a, ps, rfl, f, rk⟩ := p2.fzd hn.1
      obtain ⟨o, g, h⟩ := rk.dget f p1 hn.2
      cases r2
      refine ⟨a, o, rfl, g, ?_⟩
      rcases h with ⟨h1, rfl⟩ | ⟨x, v, h1, rfl, h3⟩
      · rw [h1]; rfl
      · rw [h1]; rfl
    · rw [if_neg hn] at e; cases e
  · cases e
theorem dop_inA (hK : D.K = X.K) (hu : X.A.units + 65 < cLine) : DOp D X (compareOp .In) gInA := fun pins s σ ca H x y u1 u2 wx wy w Q I r1 r2 p1 p2 e q => by
  unfold gInA at e
  cases e1 : gIn wx wy with
  | some w' =>
    rw [e1] at e
    cases e
    exact dop_in hK hu pins s σ ca H x y u1 u2 wx wy w Q I r1 r2 p1 p2 e1 q
  | none =>
    rw [e1] at e
    obtain ⟨k, e2, rfl⟩ := Option.map_eq_some_iff.mp (show (inD wx wy).map PyData.bool = some w from e)
    obtain ⟨a, o, rfl, g, rfl⟩ := inD_run r2 p1 p2 e2
    exact d_in (by omega) I g r1 fun s' I' => ⟨.bl _, H, I', rfl, q _ H (fun _ _ h => h) rp_bool⟩
theorem dop_notinA (hK : D.K = X.K) (hu : X.A.units + 65 < cLine) : DOp D X (compareOp .NotIn) gNotInA := fun pins s σ ca H x y u1 u2 wx wy w Q I r1 r2 p1 p2 e q => by
  unfold gNotInA at e
  cases e1 : gNotIn wx wy with
  | some w' =>
    rw [e1] at e
    cases e
    exact dop_notin hK hu pins s σ ca H x y u1 u2 wx wy w Q I r1 r2 p1 p2 e1 q
  | none =>
    rw [e1] at e
    obtain ⟨k, e2, rfl⟩ := Option.map_eq_some_iff.mp (show (inD wx wy).map (fun k => PyData.bool (!k)) = some w from e)
    obtain ⟨a, o, rfl, g, rfl⟩ := inD_run r2 p1 p2 e2
    exact d_notIn (by omega) I g r1 fun s' I' => ⟨.bl _, H, I', rfl, q _ H (fun _ _ h => h) rp_bool⟩
end
end DL
namespace DL
open PySem PySem.Spec PyProof.Rows L2

section
variable {D : DC} {Wx : WX} {X : Cx} {e e2 o : Expr} {me mf mo : EM} {i : Nat} {x : Str} {ppos apos cpos pos : Pos} {l : KM}
/-! ### own[k] = v, own.update({..}) -/
theorem set_dictK (hu : X.A.units + 1 < cLine) : PSet X (fun o i v H Q => ∃ a H4, o = .ref a ∧ DPut H a i v H4 ∧ Q H4) := by
  intro pins s σ H o i v ov iv u Q I ro ri rv h
  obtain ⟨a, H4, rfl, g, q⟩ := h
  cases ro
  exact d_setItem hu I g ri rv fun s' I' => ⟨H4, I', q⟩
def gSetD (i : Nat) (a : EM) : GM := fun w m => match ownAt m.env i with
  | some (.od _) => match a m with
    | .ok k m => match ownAt m.env i with
      | some (.od kvs) => if ((toKey k).isSome && szOk (kvs.length + 1)) = true then .ok () { m with env := m.env.set i (some (.od (putW kvs k w))) } else .bad
      | _ => .bad
    | _ => .bad
  | _ => .bad
theorem gSetD_inv {w : W} {m m' : MS} (h : gSetD i me w m = .ok () m') : ∃ kvs0 k m1 kvs, ownAt m.env i = some (.od kvs0) ∧ me m = .ok k m1 ∧ ownAt m1.env i = some (.od kvs) ∧ (toKey k).isSome = true ∧ szOk (kvs.length + 1) = true ∧ m' = { m1 with env := m1.env.set i (some (.od (putW kvs k w))) } := by
  unfold gSetD at h
  split at h
  · rename_i kvs0 e0
    split at h
    · rename_i k m1 e1
      split at h
      · rename_i kvs e2
        split at h
        · rename_i hk
          rw [Bool.and_eq_true] at hk
          cases h
          exact ⟨kvs0, k, m1, kvs, e0, e1, e2, hk.1, hk.2, rfl⟩
        · cases h
      · cases h
    · cases h
  · cases h
theorem dg_setD (hu : X.A.units + 1 < cLine) (hN : X.N[i]? = some x) (hv : Vis X.env.scope x) (hb : DE D W0 X e me) (hq : EQt me) (hd : (x == ("__debug__" : Str)) = false := by decide) (hcd : (x == ("__classdict__" : Str)) = false := by decide)
    (ha : ∀ v, assign (.Subscript (.Name x ppos) e pos) X.env v = (do
      let ov ← holding [v] (eval (.Name x ppos) X.env)
      let iv ← holding [v, ov] (eval e X.env)
      standAt pos
      holding [v, ov, iv] (setItem ov iv v)
      release [v, ov, iv] []) := by intro _; rfl) : DG D X (.Subscript (.Name x ppos) e pos) [i] (gSetD i me) :=
  ⟨PG.mono (pg_sub (pe_var hN hv hd hcd) hb (set_dictK hu) ha) fun v σ H Q ⟨ca, ms, w, r, pw, ms', eg, q⟩ => by
    obtain ⟨kvs0, k, m1, kvs, e0, e1, e2, hk, hz, rfl⟩ := gSetD_inv eg
    obtain ⟨p, o, hσ, ⟨vs, hp, _⟩, _, _, _⟩ := r.own_at e0
    refine ⟨.ref p, hσ, RdE.okk r e1 fun kv ca1 H1 x1 r1 p1 => ?_⟩
    obtain ⟨kk, hkk⟩ := Option.isSome_iff_exists.mp hk
    have ekv := p1.kv hkk
    have ekw := toKey_kW hkk
    obtain ⟨p', o1, hσ1, ⟨vs1, hp1, rv1⟩, _, _, _⟩ := r1.own_at e2
    rw [hσ] at hσ1
    cases hσ1
    obtain ⟨h2, h3⟩ := ownAt_some e2
    have hzl := szOk_le hz
    subst ekv
    refine ⟨p, _, rfl, DPut.k hp1 (by have := rv1.length; omega), ?_⟩
    have kp : Kp H1 (upd H1 p (.dK (putK vs1 kk v))) := Kp.upd_mut hp1 trivial
    have xx : Ext ca1 H1 ca1 _ := ⟨kp, List.prefix_refl _⟩
    rw [ekw] at q
    exact q σ ca1 _ rfl (fun _ _ => rfl) (x1.trans xx) (r1.own_set h2 h3 hσ ⟨_, upd_same, RpKv.mono xx _ _ (rv1.put (Rp.mono x1 _ _ pw) kk)⟩ rfl),
  fun w m m' eg t ht => by
    obtain ⟨kvs0, k, m1, kvs, e0, e1, e2, hk, hz, rfl⟩ := gSetD_inv eg
    show (m1.env.set i _)[t]? = _
    rw [List.getElem?_set_ne (by simpa using fun z => ht (by simp [z])), hq _ _ _ e1]⟩
def rUpdD : V → List V → Hp → VK → Prop := fun x vs H Q => ∃ d b kvs more, x = .ref d ∧ vs = [.ref b] ∧ d ≠ b ∧ H d = some (.dK kvs) ∧ H b = some (.dK more) ∧ kvs.length + more.length ≤ sizeLine ∧ Q .non (upd H d (.dK (mergeK kvs more)))
theorem mt_updD : MtR X "dict.update" rUpdD := by
  intro pins s σ H x xs v us Q I rx rs h
  obtain ⟨d, b, kvs, more, rfl, rfl, hne, hd, hb, hz, q⟩ := h
  cases rx
  obtain ⟨u, rfl, ru⟩ := rs.one
  cases ru
  obtain ⟨z1, lo1, vs1, rel1, dd1⟩ := dk_of I.hok hd
  obtain ⟨z2, lo2, vs2, rel2, dd2⟩ := dk_of I.hok hb
  refine call_meetsIn F.slot_dict_update dd1.typeIs F.entry_dict_update (F.args_dict_update_2 _ _) (meets_dict_update (mixKind X.prog X.w) d b hne lo2) ⟨vs1, vs2, dd1, dd2, by rw [← rel1.length, ← rel2.length]; exact hz, fun h' hm _ hs => ?_⟩
  have hl : (mergeK kvs more).length ≤ sizeLine := by have := length_mergeK more kvs; omega
  have he : ∃ q, h'.get? d = some q := let ⟨q, _, _, hq, _⟩ := hm; ⟨q, hq⟩
  exact ⟨.non, _, d_write (t' := s.toks) I (by rw [hd]; trivial) hs he (dk_new hl lo1 (rel2.merge rel1) hm), rfl, q⟩
def eUpdF (i : Nat) (l : KM) : EM := fun m => match ownAt m.env i with
  | some (.od _) => (l m).bind fun ws m => match ownAt m.env i with
    | some (.od kvs) => if szOk (kvs.length + ws.length) = true then .ok .none { m with env := m.env.set i (some (.od (mergeW kvs ws))) } else .bad
    | _ => .bad
  | _ => .bad
theorem de_updF (hN : X.N[i]? = some x) (hv : Vis X.env.scope x) (hf : DD D Wx X e l)
    (hd : (x == ("__debug__" : Str)) = false := by decide) (hcd : (x == ("__classdict__" : Str)) = false := by decide)
    (hbase : attributeBase (.Name x ppos) "update" X.env (eval (.Name x ppos) X.env) = eval (.Name x ppos) X.env := by rfl)
    (hfew : ((backTo cpos (starEach [e] X.env)).all (fun x => !x.1) && (backToKw cpos (keywordEach [] X.env)).all (fun x => x.1.isSome)
      && decide ([e].length + ([] : List Keyword).length + (if ([] : List Keyword).isEmpty then 0 else 1) < 30)) = true := by rfl)
    (hline : (apos.endLine == cpos.line) = true := by rfl) (hs : starEach [e] X.env = (false, eval e X.env) :: starEach [] X.env := by rfl) :
    DE D Wx X (.Call (.Attribute (.Name x ppos) "update" apos) [e] [] cpos) (eUpdF i l) :=
  PE.mono (pe_bm F.plainAttrs_dict F.slot_dict_update F.type_dict_update mt_updD (pe_var hN hv hd hcd) (pa_cons hf pa_nil hs) hbase hfew hline hs rfl) fun σ H Q h => by
    obtain ⟨ca, ms, r, h⟩ := h
    unfold eUpdF at h
    cases ex : ownAt ms.env i with
    | none => rw [ex] at h; exact h.elim
    | some x =>
      cases x with
      | fz w => rw [ex] at h; exact h.elim
      | ow kvs => rw [ex] at h; exact h.elim
      | od kvs0 =>
        rw [ex] at h
        obtain ⟨p, o, hσ, ⟨vs, hp, _⟩, _, _, _⟩ := r.own_at ex
        refine ⟨.ref p, hσ, .inr (.inr (.inl ⟨rfl, .inl ⟨vs, hp⟩⟩)), ca, ms, r, ?_⟩
        cases el : l ms with
        | bad => rw [el] at h; exact h
        | err c fs m => rw [el] at h; exact h
        | ok ws ms1 =>
          rw [el] at h
          have h : Po D Wx σ ca H (match ownAt ms1.env i with
            | some (.od kvs) => if szOk (kvs.length + ws.length) = true then .ok .none { ms1 with env := ms1.env.set i (some (.od (mergeW kvs ws))) } else .bad
            | _ => .bad) (EQ D σ ca H Q) := h
          cases ex1 : ownAt ms1.env i with
          | none => rw [ex1] at h; exact h.elim
          | some x =>
            cases x with
            | fz w => rw [ex1] at h; exact h.elim
            | ow kvs => rw [ex1] at h; exact h.elim
            | od kvs =>
              rw [ex1] at h
              by_cases hz : szOk (kvs.length + ws.length) = true
              · simp only [if_pos hz] at h
                refine fun b zs ca1 H1 x1 r1 nb pb => ?_
                obtain ⟨p', o1, hσ1, ⟨vs1, hp1, rv1⟩, _, _, _⟩ := r1.own_at ex1
                rw [hσ] at hσ1
                cases hσ1
                obtain ⟨h2, h3⟩ := ownAt_some ex1
                have g := Same.upd_new (o := HO.dK zs) nb
                have r2 := r1.grow g
                have hp2 := g _ _ hp1
                have rv2 := RpKv.mono (Ext.of_same (ca := ca1) g) _ _ rv1
                have pb2 := RpKv.mono (Ext.of_same (ca := ca1) g) _ _ pb
                have kp : Kp (upd H1 b (.dK zs)) (upd (upd H1 b (.dK zs)) p (.dK (mergeK vs1 zs))) := Kp.upd_mut hp2 trivial
                have xx : Ext ca1 (upd H1 b (.dK zs)) ca1 _ := ⟨kp, List.prefix_refl _⟩
                have hzl := szOk_le hz
                have hne : p ≠ b := fun z => by subst z; rw [hp1] at nb; cases nb
                refine ⟨p, b, vs1, zs, rfl, rfl, hne, hp2, upd_same, by rw [rv1.length, pb.length]; exact hzl, ?_⟩
                exact h _ ca1 _ ((x1.trans (.of_same g)).trans xx) (r2.own_set h2 h3 hσ ⟨_, upd_same, RpKv.mono xx _ _ (rv2.merge pb2)⟩ rfl) (by simp only [Rp])
              · simp only [if_neg hz] at h; exact h.elim
/-! ### d.get(k), d.get(k, x) -/
def eGet1 (a b : EM) : EM := fun m => (a m).bind fun d m => match d with
  | .dict kvs => if hndB kvs = true then (b m).bind fun k m => if (toKey k).isSome = true then .ok ((lookW kvs k).getD .none) m else .bad else .bad
  | _ => .bad
def eGet2 (a b c : EM) : EM := fun m => (a m).bind fun d m => match d with
  | .dict kvs => if hndB kvs = true then (b m).bind fun k m => (c m).bind fun z m => if (toKey k).isSome = true then .ok ((lookW kvs k).getD z) m else .bad else .bad
  | _ => .bad
theorem de_get1 (hu : X.A.units + 1 < cLine) (ho : DE D Wx X o mo) (he : DE D Wx X e me) (m : M1 X o "get" apos e cpos) : DE D Wx X (.Call (.Attribute o "get" apos) [e] [] cpos) (eGet1 mo me) :=
  PE.mono (pe_dget1 hu ho he m) fun σ H Q h => by
    obtain ⟨ca, ms, r, h⟩ := h
    refine RdE.bind r h fun wx x ms1 ca1 H1 x1 r1 p1 h1 => ?_
    cases wx with
    | dict kvs =>
      by_cases hn : hndB kvs = true
      · simp only [if_pos hn] at h1
        obtain ⟨a, ps, rfl, f, rk⟩ := p1.fzd hn
        refine ⟨a, rfl, .inl ⟨ps, f.rd⟩, RdE.bind r1 (h1.ext x1) fun wy y ms2 ca2 H2 x2 r2 p2 h2 => ?_⟩
        by_cases hk : (toKey wy).isSome = true
        · rw [if_pos hk] at h2
          obtain ⟨ov, g, hh⟩ := (RpKv.mono x2 _ _ rk).dget (f.mono x2.kp) p2 hk
          refine ⟨ov, g, h2 _ ca2 H2 (x1.trans x2) r2 ?_⟩
          rcases hh with ⟨h3, rfl⟩ | ⟨x, v, h3, rfl, h4⟩
          · rw [h3]; simp only [Option.getD_none, Rp]
          · rw [h3]; exact h4
        · rw [if_neg hk] at h2; exact h2.elim
      · simp only [if_neg hn] at h1; exact h1.elim
    | _ => exact h1.elim
theorem de_get2 (hu : X.A.units + 1 < cLine) (ho : DE D Wx X o mo) (he : DE D Wx X e me) (hf : DE D Wx X e2 mf) (m : M2 X o "get" apos e e2 cpos) : DE D Wx X (.Call (.Attribute o "get" apos) [e, e2] [] cpos) (eGet2 mo me mf) :=
  PE.mono (pe_dget2 hu ho he hf m) fun σ H Q h => by
    obtain ⟨ca, ms, r, h⟩ := h
    refine RdE.bind r h fun wx x ms1 ca1 H1 x1 r1 p1 h1 => ?_
    cases wx with
    | dict kvs =>
      by_cases hn : hndB kvs = true
      · simp only [if_pos hn] at h1
        obtain ⟨a, ps, rfl, f, rk⟩ := p1.fzd hn
        refine ⟨a, rfl, .inl ⟨ps, f.rd⟩, RdE.bind r1 (h1.ext x1) fun wy y ms2 ca2 H2 x2 r2 p2 h2 => RdE.bind r2 (h2.ext x2) fun wz z ms3 ca3 H3 x3 r3 p3 h3 => ?_⟩
        by_cases hk : (toKey wy).isSome = true
        · rw [if_pos hk] at h3
          obtain ⟨ov, g, hh⟩ := (RpKv.mono (x2.trans x3) _ _ rk).dget (f.mono (x2.trans x3).kp) (Rp.mono x3 _ _ p2) hk
          refine ⟨ov, g, h3 _ ca3 H3 ((x1.trans x2).trans x3) r3 ?_⟩
          rcases hh with ⟨h4, rfl⟩ | ⟨x, v, h4, rfl, h5⟩
          · rw [h4]; exact p3
          · rw [h4]; exact h5
        · rw [if_neg hk] at h3; exact h3.elim
      · simp only [if_neg hn] at h1; exact h1.elim
    | _ => exact h1.elim
/-! ### a table of the text: T.get(k), k a text -/
def KTab (K : PySem.W.Frag) (w : World) (a : Addr) (tab : List (Str × W)) : Prop := (a == sysModules) = false ∧ (∃ es n, K.lookup a = some ⟨.type "dict", none, .dict es n, #[]⟩ ∧ PySem.W.KeysLit w.params es.toList) ∧
  ∀ z : Str, (PySem.W.nsIn K a z = some none ∧ tab.lookup z = none) ∨ ∃ u v wv, PySem.W.nsIn K a z = some (some u) ∧ RelV v u ∧ tab.lookup z = some wv ∧ ∀ ca H, Rp K ca H wv v
def eTabGet (tab : List (Str × W)) (b : EM) : EM := fun m => (b m).bind fun k m => match k with
  | .str z => .ok ((tab.lookup z).getD .none) m
  | _ => .bad
theorem de_tabGet {a : Addr} {tab : List (Str × W)} {T : Str} {ppos : Pos} (hK : D.K = X.K) (hg : Gl X T) (hm : X.mg T = some (.ref a)) (ht : KTab X.K X.w a tab) (he : DE D Wx X e me) (m : M1 X (.Name T ppos) "get" apos e cpos) (hd : (T == ("__debug__" : Str)) = false := by decide) :
    DE D Wx X (.Call (.Attribute (.Name T ppos) "get" apos) [e] [] cpos) (eTabGet tab me) := by
  refine ⟨fun pins s σ H Q I h => ?_⟩
  obtain ⟨ca, ms, r, h⟩ := h
  obtain ⟨lo, ⟨es, n, hl, hk⟩, hz⟩ := ht
  have hobj : ∀ {s' : Shared} {H' : Hp} {pins' σ'}, Inv X pins' σ' H' s' → s'.heap.get? a = some ⟨.type "dict", none, .dict es n, #[]⟩ := fun I' => I'.kIn _ _ hl
  refine wpAny_Call_method m.base m.few m.line F.plainAttrs_dict F.slot_dict_get F.type_dict_get (thn ((pe_glob (X := X) (pos := ppos) hg hm (v := .ref a) rfl hd).run pins s σ H (fun v H' => v = .ref a ∧ H' = H) I ⟨rfl, rfl⟩) fun u s1 ⟨x, H1, I1, rx, ex, eH⟩ => ?_)
  subst ex
  subst eH
  obtain rfl : u = Value.ref a := rx
  refine ⟨⟨_, hobj I1, rfl⟩, fun b hb => by cases hb; exact ⟨_, hobj I1, rfl⟩, ?_⟩
  rw [m.trees]
  have h2 : RdE D Wx me σ H1 fun k H2 => ∃ z wv v, k = .str z ∧ ((PySem.W.nsIn X.K a z = some none ∧ v = .non) ∨ ∃ u, PySem.W.nsIn X.K a z = some (some u) ∧ RelV v u) ∧ Rp D.K ca H2 wv v ∧ Q v H2 := by
    refine RdE.bind r h fun wy y ms2 ca2 H2 x2 r2 p2 h2 => ?_
    cases wy with
    | str z =>
      obtain rfl := p2.str
      rcases hz z with ⟨h3, h4⟩ | ⟨u, v, wv, h3, h5, h4, h6⟩
      · simp only [h4, Option.getD_none] at h2
        exact ⟨z, .none, .non, rfl, .inl ⟨h3, rfl⟩, by simp only [Rp], h2 _ ca2 H2 x2 r2 (by simp only [Rp])⟩
      · simp only [h4, Option.getD_some] at h2
        exact ⟨z, wv, v, rfl, .inr ⟨u, h3, h5⟩, by rw [hK]; exact h6 _ _, h2 _ ca2 H2 x2 r2 (by rw [hK]; exact h6 _ _)⟩
    | _ => exact h2.elim
  refine Calls.callWith_builtin rfl (Calls.evalArgs_plain (Calls.spliced_cons (thn (he.run pins s1 σ H1 _ I1 h2) fun iv s2 ⟨y, H2, I2, ry, z, wv, v, ek, hn, _, q⟩ => Calls.spliced_nil ?_)))
  subst ek
  obtain ⟨t, rfl⟩ := (show ∃ t, iv = Value.str z t from ry)
  have hm' := PySem.W.mapOf_K (prog := X.prog) (w := X.w) I2.kIn hl hk
  refine call_meetsIn F.slot_dict_get hm'.typeIs F.entry_dict_get (F.args_dict_get_2 _ _) (meets_dict_get (strKind X.prog X.w) a (strKind_is X.prog X.w z t) lo) ⟨_, hm', ?_⟩
  rcases hn with ⟨h3, rfl⟩ | ⟨u, h3, h5⟩
  · rw [PySem.W.find_K hl h3]
    exact ⟨.non, H2, I2.tok _, rfl, q⟩
  · rw [PySem.W.find_K hl h3]
    exact ⟨v, H2, I2.tok _, h5, q⟩
end
end DL
namespace DL
open PySem PySem.Spec PyProof.Rows L2

theorem PI.alt {X : Cx} {tg e : Expr} {t t' : TI} (h : PI X tg e t) (h' : PI X tg e t') : PI X tg e (fun σ H R => t σ H R ∨ t' σ H R) := ⟨fun pins s σ H R I hw => by
  rcases hw with hw | hw
  · exact h.run pins s σ H R I hw
  · exact h'.run pins s σ H R I hw⟩
def walkOf : W → Option (List W)
  | .list xs => some xs
  | .tuple xs => some xs
  | .dict kvs => if hndB kvs = true then some (keysW kvs) else none
  | _ => none
/-- a list, a tuple, a dict -/
def iS (a : EM) : LM := fun m => (a m).bind fun x m => opt (walkOf x) m
def iVs (a : EM) : LM := fun m => (a m).bind fun x m => match x with
  | .dict kvs => if hndB kvs = true then .ok (kvs.map (·.2)) m else .bad
  | _ => .bad
def iIt (a : EM) : LM := fun m => (a m).bind fun x m => match x with
  | .dict kvs => if hndB kvs = true then .ok (kvs.map fun kv => .tuple [kv.1, kv.2]) m else .bad
  | _ => .bad
theorem RpKv.at {K : PySem.W.Frag} {ca : CA} {H : Hp} : ∀ {kvs : List (W × W)} {ps : List (Key × V)} {i : Nat} {k : Key} {v : V}, RpKv K ca H kvs ps → ps[i]? = some (k, v) → ∃ x, kvs[i]? = some (kW k, x) ∧ Rp K ca H x v
  | [], ps, i, k, v, h, e => by simp only [RpKv] at h; subst h; simp at e
  | (q, x) :: r, ps, i, k, v, h, e => by
    simp only [RpKv] at h
    obtain ⟨q', u, t, rfl, rfl, h1, h2⟩ := h
    cases i with
    | zero => simp at e; obtain ⟨rfl, rfl⟩ := e; exact ⟨x, rfl, h1⟩
    | succ i =>
      obtain ⟨y, e1, e2⟩ := RpKv.at (i := i) h2 (by simpa using e)
      exact ⟨y, by simpa using e1, e2⟩
section
variable {K : PySem.W.Frag} {ca : CA} {H : Hp} {a : Addr} {o : Obj} {kvs : List (W × W)} {ps : List (Key × V)}
theorem dwalk_keys (f : H a = some (.frz o (.dK ps))) (r : RpKv K ca H kvs ps) : DWalk K (Itk a o ps) ca H (keysW kvs) := by
  have hl : (keysW kvs).length = ps.length := by rw [r.length]; simp [keysW]
  refine ⟨fun i H' hi k => ⟨k.frz _ _ _ f, by rw [← hl]; exact hi⟩, fun H' k => ⟨k.frz _ _ _ f, by rw [hl]; exact Nat.le_refl _⟩, fun i H' x H2 w k e y => ?_⟩
  obtain ⟨rfl, kk, v, hk, rfl⟩ := y
  obtain ⟨x, e1, _⟩ := r.at hk
  unfold keysW at e
  rw [List.getElem?_map, e1] at e
  cases e
  exact ⟨fun _ _ h => h, rp_kV kk⟩
theorem dwalk_vals (f : H a = some (.frz o (.dK ps))) (r : RpKv K ca H kvs ps) : DWalk K (Itd a o ps) ca H (kvs.map (·.2)) := by
  have hl : (kvs.map (·.2)).length = ps.length := by rw [r.length]; simp
  refine ⟨fun i H' hi k => ⟨k.frz _ _ _ f, by rw [← hl]; exact hi⟩, fun H' k => ⟨k.frz _ _ _ f, by rw [hl]; exact Nat.le_refl _⟩, fun i H' x H2 w k e y => ?_⟩
  obtain ⟨rfl, kk, hk⟩ := y
  obtain ⟨x, e1, px⟩ := (RpKv.mono (ca' := ca) ⟨k, List.prefix_refl _⟩ _ _ r).at hk
  rw [List.getElem?_map, e1] at e
  cases e
  exact ⟨fun _ _ h => h, px⟩
theorem dwalk_items (f : H a = some (.frz o (.dK ps))) (r : RpKv K ca H kvs ps) : DWalk K (Iti a o ps) ca H (kvs.map fun kv => .tuple [kv.1, kv.2]) := by
  have hl : (kvs.map fun kv => PyData.tuple [kv.1, kv.2]).length = ps.length := by rw [r.length]; simp
  refine ⟨fun i H' hi k => ⟨k.frz _ _ _ f, by rw [← hl]; exact hi⟩, fun H' k => ⟨k.frz _ _ _ f, by rw [hl]; exact Nat.le_refl _⟩, fun i H' x H2 w k e y => ?_⟩
  obtain ⟨T, kk, v, hk, rfl, nT, rfl⟩ := y
  have g := Same.upd_new (o := .tup [kV kk, v]) nT
  obtain ⟨x, e1, px⟩ := (RpKv.mono (ca' := ca) ⟨k.trans (.of_same g), List.prefix_refl _⟩ _ _ r).at hk
  rw [List.getElem?_map, e1] at e
  cases e
  exact ⟨g, rp_tup (.inl upd_same) (by simp only [RpAll]; exact ⟨_, _, rfl, rp_kV kk, _, _, rfl, px, rfl⟩)⟩
end
section
variable {D : DC} {Wx : WX} {X : Cx} {tg e : Expr} {ma : EM} {apos cpos : Pos}
theorem di_seq (hK : D.K = X.K) (h : DE D Wx X e ma) : DI D Wx X tg e (iS ma) :=
  PI.mono (PI.alt (PI.alt (pi_list h) (pi_tup h)) (pi_keys h)) fun σ H R ⟨ca, ms, r, hh⟩ => by
    have one : ∀ {Q : VK}, (∀ w v ms1 ca1 H1, Ext ca H ca1 H1 → Rel D ca1 σ H1 ms1 → Rp D.K ca1 H1 w v → ma ms = .ok w ms1 → Po D Wx σ ca H (opt (walkOf w) ms1) (fun xs ms' => ∀ J ca' H', Ext ca H ca' H' → Rel D ca' σ H' ms' → DWalk D.K J ca' H' xs → R J H') → Q v H1) → RdE D Wx ma σ H Q := fun {Q} q => by
      refine ⟨ca, ms, r, ?_⟩
      unfold iS at hh
      cases e : ma ms with
      | ok w ms1 =>
        rw [e] at hh
        exact fun v ca1 H1 x1 r1 p1 => q w v ms1 ca1 H1 x1 r1 p1 e hh
      | err c fs m => rw [e] at hh; exact hh
      | bad => rw [e] at hh; exact hh
    cases em : ma ms with
    | bad =>
      unfold iS at hh
      rw [em] at hh
      exact hh.elim
    | err c fs m =>
      refine .inl (.inl (one fun w v ms1 ca1 H1 x1 r1 p1 e1 h1 => ?_))
      rw [em] at e1; cases e1
    | ok w0 m0 =>
      cases w0 with
      | list xs =>
        refine .inl (.inl (one fun w v ms1 ca1 H1 x1 r1 p1 e1 h1 => ?_))
        rw [em] at e1; cases e1
        obtain ⟨a, vs, rfl, f, ra⟩ := p1.lst
        refine ⟨a, rfl, ⟨vs, by rw [← hK]; exact f.sq⟩, ?_⟩
        rw [← hK]
        exact h1 _ ca1 H1 x1 r1 (dwalk_list f ra)
      | tuple xs =>
        refine .inl (.inr (one fun w v ms1 ca1 H1 x1 r1 p1 e1 h1 => ?_))
        rw [em] at e1; cases e1
        obtain ⟨a, vs, rfl, f, ra⟩ := p1.tup
        refine ⟨a, rfl, ⟨vs, by rw [← hK]; exact f.sq⟩, ?_⟩
        rw [← hK]
        exact h1 _ ca1 H1 x1 r1 (dwalk_tup f ra)
      | dict kvs =>
        refine .inr (one fun w v ms1 ca1 H1 x1 r1 p1 e1 h1 => ?_)
        rw [em] at e1; cases e1
        obtain ⟨ys, ey, q⟩ := Po.opt h1
        have ey : (if hndB kvs = true then some (keysW kvs) else none) = some ys := ey
        by_cases hn : hndB kvs = true
        · rw [if_pos hn] at ey
          cases ey
          obtain ⟨a, ps, rfl, ⟨o, f⟩, rk⟩ := p1.fzd hn
          exact ⟨a, o, rfl, .inl ⟨ps, f, q _ ca1 H1 x1 r1 (dwalk_keys f rk)⟩⟩
        · rw [if_neg hn] at ey; cases ey
      | _ =>
        unfold iS at hh
        rw [em] at hh
        exact hh.elim
theorem di_vals (h : DE D Wx X e ma) (hbase : attributeBase e "values" X.env (eval e X.env) = eval e X.env := by rfl) (hline : (apos.endLine == cpos.line) = true := by rfl) : DI D Wx X tg (.Call (.Attribute e "values" apos) [] [] cpos) (iVs ma) :=
  PI.mono (pi_values h hbase hline) fun σ H R ⟨ca, ms, r, h⟩ => RdE.bind r h fun w v ms1 ca1 H1 x1 r1 p1 h1 => by
    cases w with
    | dict kvs =>
      by_cases hn : hndB kvs = true
      · simp only [if_pos hn] at h1
        obtain ⟨a, ps, rfl, ⟨o, f⟩, rk⟩ := p1.fzd hn
        exact ⟨a, o, ps, rfl, f, h1 _ ca1 H1 x1 r1 (dwalk_vals f rk)⟩
      · simp only [if_neg hn] at h1; exact h1.elim
    | _ => exact h1.elim
theorem di_items {elts : List Expr} {kk : Nat} {tpos : Pos} (h : DE D Wx X e ma) (hbase : attributeBase e "items" X.env (eval e X.env) = eval e X.env := by rfl) (hline : (apos.endLine == cpos.line) = true := by rfl) : DI D Wx X (.Tuple elts kk tpos) (.Call (.Attribute e "items" apos) [] [] cpos) (iIt ma) :=
  PI.mono (pi_items h hbase hline) fun σ H R ⟨ca, ms, r, h⟩ => RdE.bind r h fun w v ms1 ca1 H1 x1 r1 p1 h1 => by
    cases w with
    | dict kvs =>
      by_cases hn : hndB kvs = true
      · simp only [if_pos hn] at h1
        obtain ⟨a, ps, rfl, ⟨o, f⟩, rk⟩ := p1.fzd hn
        exact ⟨a, o, ps, rfl, f, h1 _ ca1 H1 x1 r1 (dwalk_items f rk)⟩
      · simp only [if_neg hn] at h1; exact h1.elim
    | _ => exact h1.elim
end
/-! ### the slots stay: by the form -/
def Qt {α : Type} (f : MS → R α) : Prop := ∀ s w s', f s = .ok w s' → s'.env = s.env
theorem Qt.bind {α β : Type} {f : MS → R α} {g : α → MS → R β} (hf : Qt f) (hg : ∀ x, Qt (g x)) : Qt (fun m => (f m).bind g) := fun s w s' h => by
  have h : (f s).bind g = .ok w s' := h
  cases e : f s with
  | ok x m => rw [e] at h; exact (hg x m w s' h).trans (hf _ _ _ e)
  | err c fs m => rw [e] at h; cases h
  | bad => rw [e] at h; cases h
theorem qt_bad {α : Type} : Qt (fun _ => (R.bad : R α)) := fun s w s' h => by cases h
theorem qt_ok {α : Type} (a : α) : Qt (fun m => R.ok a m) := fun s w s' h => by cases h; rfl
theorem qt_opt {α : Type} (o : Option α) : Qt (fun m => opt o m) := by
  cases o with
  | none => exact qt_bad
  | some a => exact qt_ok a
theorem qt_ite {α : Type} {c : Prop} [Decidable c] {f g : MS → R α} (hf : Qt f) (hg : Qt g) : Qt (fun m => if c then f m else g m) := by
  by_cases h : c
  · simpa only [if_pos h] using hf
  · simpa only [if_neg h] using hg
section
variable {a b c : EM} {t u : TM} {l r it it1 : LM} {g : W → W → Option W} {lo hi : OM} {i : Nat}
theorem q_var : Qt (eVar i) := fun s w s' h => by
  unfold eVar at h
  split at h
  · cases h; rfl
  · cases h
theorem q_c {w : W} : Qt (eC w) := qt_ok w
theorem q_bin (ha : Qt a) (hb : Qt b) : Qt (eBin g a b) := ha.bind fun _ => hb.bind fun _ => qt_opt _
theorem q_val (ha : Qt a) : Qt (tVal a) := ha.bind fun x => by
  cases x with
  | bool k => exact qt_ok k
  | _ => exact qt_bad
theorem q_tand (ha : Qt t) (hb : Qt u) : Qt (tAnd t u) := ha.bind fun _ => qt_ite hb (qt_ok _)
theorem q_tor (ha : Qt t) (hb : Qt u) : Qt (tOr t u) := ha.bind fun _ => qt_ite (qt_ok _) hb
theorem q_tnot (ha : Qt t) : Qt (tNot t) := ha.bind fun _ => qt_ok _
theorem q_and (ha : Qt a) (hb : Qt b) : Qt (eAnd a b) := ha.bind fun x => by
  cases x with
  | bool k => cases k with
    | true => exact hb
    | false => exact qt_ok _
  | _ => exact qt_bad
theorem q_or (ha : Qt a) (hb : Qt b) : Qt (eOr a b) := ha.bind fun x => by
  cases x with
  | bool k => cases k with
    | false => exact hb
    | true => exact qt_ok _
  | _ => exact qt_bad
theorem q_not (ha : Qt a) : Qt (eNot a) := ha.bind fun x => by
  cases x with
  | bool k => exact qt_ok _
  | _ => exact qt_bad
theorem q_if (ht : Qt t) (ha : Qt a) (hb : Qt b) : Qt (eIf t a b) := ht.bind fun _ => qt_ite ha hb
theorem q_nil : Qt aNil := qt_ok []
theorem q_cons (ha : Qt a) (hr : Qt r) : Qt (aCons a r) := ha.bind fun _ => hr.bind fun _ => qt_ok _
theorem q_star (ha : Qt a) (hr : Qt r) : Qt (aStar a r) := ha.bind fun x => by
  cases itemsOf x with
  | none => exact qt_bad
  | some ys => exact hr.bind fun _ => qt_ok _
theorem q_tup (hl : Qt l) : Qt (eTup l) := hl.bind fun _ => qt_ite (qt_ok _) qt_bad
theorem q_lst (hl : Qt l) : Qt (fLst l) := hl.bind fun _ => qt_ite (qt_ok _) qt_bad
theorem q_fz (hl : Qt l) : Qt (eFz l) := hl.bind fun _ => qt_ok _
theorem q_of {g : List W → Option W} (hl : Qt l) : Qt (eOf g l) := hl.bind fun _ => qt_opt _
theorem q_fof {g : List W → Option (List W)} (hl : Qt l) : Qt (fOf g l) := hl.bind fun _ => qt_opt _
theorem q_onone : Qt oNone := qt_ok none
theorem q_osome (ha : Qt a) : Qt (oSome a) := ha.bind fun x => by
  cases x with
  | int k => exact qt_ok _
  | _ => exact qt_bad
theorem q_isi {T : String} (ha : Qt a) : Qt (eIsi T a) := ha.bind fun _ => qt_opt _
theorem q_fbin {g : W → W → Option (List W)} (ha : Qt a) (hb : Qt b) : Qt (fBin g a b) := ha.bind fun _ => hb.bind fun _ => qt_opt _
theorem q_il (ha : Qt a) : Qt (iS a) := ha.bind fun _ => qt_opt _
theorem q_ir1 (hl : Qt l) : Qt (iR1 l) := hl.bind fun _ => qt_opt _
theorem q_ir2 (hl : Qt l) : Qt (iR2 l) := hl.bind fun _ => qt_opt _
theorem q_ien (ha : Qt a) : Qt (iEn a) := ha.bind fun x => by
  cases itemsOf x with
  | none => exact qt_bad
  | some ys => exact qt_ok _
theorem q_izp (ha : Qt a) (hb : Qt b) : Qt (iZp a b) := ha.bind fun x => hb.bind fun y => by
  cases itemsOf x with
  | none => exact qt_bad
  | some xs => cases itemsOf y with
    | none => exact qt_bad
    | some ys => exact qt_ok _
theorem q_ivs (ha : Qt a) : Qt (iVs a) := ha.bind fun x => by
  cases x with
  | dict kvs => exact qt_ite (qt_ok _) qt_bad
  | _ => exact qt_bad
theorem q_iit (ha : Qt a) : Qt (iIt a) := ha.bind fun x => by
  cases x with
  | dict kvs => exact qt_ite (qt_ok _) qt_bad
  | _ => exact qt_bad
theorem q_comp {g : GM} {own : List Nat} (hi : Qt it) : Qt (fComp it g t a own) := hi.bind fun xs s w s' h => by
  by_cases hof : ownFree s.env own = false
  · simp only [if_pos hof] at h; cases h
  · simp only [if_neg hof] at h
    split at h
    · split at h
      · cases h; rfl
      · cases h
    · cases h
theorem q_comp2 {g g1 : GM} {vs1 own : List Nat} (hi : Qt it) : Qt (fComp2 it g t it1 g1 u a vs1 own) := hi.bind fun xs s w s' h => by
  by_cases hof : ownFree s.env own = false
  · simp only [if_pos hof] at h; cases h
  · simp only [if_neg hof] at h
    split at h
    · split at h
      · cases h; rfl
      · cases h
    · cases h
theorem q_kcomp {g : GM} {own : List Nat} (hi : Qt it) : Qt (kComp it g t a b own) := hi.bind fun xs s w s' h => by
  by_cases hof : ownFree s.env own = false
  · simp only [if_pos hof] at h; cases h
  · simp only [if_neg hof] at h
    split at h
    · cases h; rfl
    · cases h
theorem q_hold (i : Nat) : Qt (eHold i a) := fun s w s' h => by
  unfold eHold at h
  split at h
  · split at h
    · split at h
      · cases h; rfl
      · cases h
    · cases h
  · cases h
theorem q_thold (i : Nat) : Qt (tHold i t) := fun s w s' h => by
  unfold tHold at h
  split at h
  · split at h
    · split at h
      · cases h; rfl
      · cases h
    · cases h
  · cases h
theorem q_ixo (ha : Qt a) : Qt (eIxO i a) := fun s w s' h => by
  unfold eIxO at h
  split at h
  · refine ha.bind (g := fun k m => match ownAt m.env i with
      | some (.ow xs) => match k with
        | .int k => opt (atI xs k) m
        | _ => .bad
      | _ => .bad) (fun k => ?_) s w s' h
    intro s w s' h
    dsimp only at h
    split at h
    · split at h
      · exact qt_opt _ _ _ _ h
      · cases h
    · cases h
  · cases h
theorem q_call {st : Bool} {F : FM} {wd : List W} (hl : Qt l) : Qt (eCall st F wd l) := hl.bind fun ws s w s' h => by
  split at h
  · cases h; rfl
  · cases h
  · cases h
theorem q_chain {g g' : W → W → Option W} (ha : Qt a) (hb : Qt b) (hc : Qt c) : Qt (eChain g g' a b c) := ha.bind fun x => hb.bind fun y => by
  intro s w s' h
  split at h
  · exact (hc.bind fun z => qt_opt _) _ _ _ h
  · cases h; rfl
  · cases h
theorem q_knew : Qt kNew := qt_ok []
theorem q_fzd {k : KM} (hl : Qt k) : Qt (eFzD k) := hl.bind fun _ => qt_ok _
theorem q_get1 (ha : Qt a) (hb : Qt b) : Qt (eGet1 a b) := ha.bind fun x => by
  cases x with
  | dict kvs => exact qt_ite (hb.bind fun k => qt_ite (qt_ok _) qt_bad) qt_bad
  | _ => exact qt_bad
theorem q_get2 (ha : Qt a) (hb : Qt b) (hc : Qt c) : Qt (eGet2 a b c) := ha.bind fun x => by
  cases x with
  | dict kvs => exact qt_ite (hb.bind fun k => hc.bind fun z => qt_ite (qt_ok _) qt_bad) qt_bad
  | _ => exact qt_bad
theorem q_tabget {tab : List (Str × W)} (ha : Qt a) : Qt (eTabGet tab a) := ha.bind fun x => by
  cases x with
  | str z => exact qt_ok _
  | _ => exact qt_bad
theorem q_yes : Qt tYesM := qt_ok true
/-! ### slices of either kind, new lists frozen at once -/
def eCut (a : EM) (lo hi : OM) : EM := fun m => (a m).bind fun x m => (lo m).bind fun l m => (hi m).bind fun u m => match x with
  | .tuple xs => .ok (.tuple (cutW xs l u)) m
  | .list xs => .ok (.list (cutW xs l u)) m
  | _ => .bad
theorem q_ecut (ha : Qt a) (hl : Qt lo) (hh : Qt hi) : Qt (eCut a lo hi) := ha.bind fun x => hl.bind fun y => hh.bind fun z => by
  cases x with
  | tuple xs => exact qt_ok _
  | list xs => exact qt_ok _
  | _ => exact qt_bad
theorem PE.alt {X : Cx} {e : Expr} {t t' : TE} (h : PE X e t) (h' : PE X e t') : PE X e (fun σ H Q => t σ H Q ∨ t' σ H Q) := ⟨fun pins s σ H Q I hw => by
  rcases hw with hw | hw
  · exact h.run pins s σ H Q I hw
  · exact h'.run pins s σ H Q I hw⟩
theorem de_cut {D : DC} {Wx : WX} {X : Cx} {e : Expr} {elo ehi : Option Expr} {p2 pos : Pos} (hK : D.K = X.K) (ha : DE D Wx X e a) (hl : DO D Wx X elo lo) (hh : DO D Wx X ehi hi) : DE D Wx X (.Subscript e (.Slice elo ehi none p2) pos) (eCut a lo hi) :=
  PE.mono (PE.alt (de_cutT hK ha hl hh) (de_fz (df_cut hK ha hl hh))) fun σ H Q ⟨ca, ms, r, h⟩ => by
    cases ea : a ms with
    | bad => unfold eCut at h; rw [ea] at h; exact h.elim
    | err c fs m =>
      refine .inl ⟨ca, ms, r, ?_⟩
      unfold eCut at h
      unfold eCutT
      rw [ea] at h ⊢
      exact h
    | ok x m =>
      have go : ∀ {f f' : W → Option Int → Option Int → MS → R W}, (∀ l u m, f x l u m = f' x l u m) → Po D Wx σ ca H ((a ms).bind fun x m => (lo m).bind fun l m => (hi m).bind fun u m => f x l u m) (EQ D σ ca H Q) → Po D Wx σ ca H ((a ms).bind fun x m => (lo m).bind fun l m => (hi m).bind fun u m => f' x l u m) (EQ D σ ca H Q) := fun {f f'} he h => by
        rw [ea] at h ⊢
        have e : (fun l m => (hi m).bind fun u m => f x l u m) = (fun l m => (hi m).bind fun u m => f' x l u m) := by
          funext l m
          congr 1
          funext u m
          exact he l u m
        show Po D Wx σ ca H ((lo m).bind fun l m => (hi m).bind fun u m => f' x l u m) _
        rw [← e]
        exact h
      cases x with
      | tuple xs => exact .inl ⟨ca, ms, r, go (fun l u m => rfl) h⟩
      | list xs =>
        refine .inr ⟨ca, ms, r, ?_⟩
        have h2 : Po D Wx σ ca H (eFz (fCut a lo hi) ms) (EQ D σ ca H Q) := by
          unfold eFz fCut
          unfold eCut at h
          rw [ea] at h ⊢
          show Po D Wx σ ca H (((lo m).bind fun l m => (hi m).bind fun u m => R.ok (cutW xs l u) m).bind fun ws m => R.ok (PyData.list ws) m) _
          have h : Po D Wx σ ca H ((lo m).bind fun l m => (hi m).bind fun u m => R.ok (PyData.list (cutW xs l u)) m) (EQ D σ ca H Q) := h
          cases el : lo m with
          | ok l m1 =>
            rw [el] at h
            have h : Po D Wx σ ca H ((hi m1).bind fun u m => R.ok (PyData.list (cutW xs l u)) m) (EQ D σ ca H Q) := h
            show Po D Wx σ ca H (((hi m1).bind fun u m => R.ok (cutW xs l u) m).bind fun ws m => R.ok (PyData.list ws) m) _
            cases eh : hi m1 with
            | ok u m2 => rw [eh] at h; exact h
            | err c fs m2 => rw [eh] at h; exact h
            | bad => rw [eh] at h; exact h
          | err c fs m1 => rw [el] at h; exact h
          | bad => rw [el] at h; exact h
        exact h2
      | _ =>
        unfold eCut at h
        rw [ea] at h
        have h : Po D Wx σ ca H ((lo m).bind fun l m => (hi m).bind fun u m => R.bad) (EQ D σ ca H Q) := h
        refine .inl ⟨ca, ms, r, ?_⟩
        unfold eCutT
        rw [ea]
        exact h
/-- a new list, frozen at once -/
theorem dop_fz {D : DC} {X : Cx} {f : Value → Value → Sem Value} {g : W → W → Option (List W)} (h : DOpF D X f g) : DOp D X f (fun a b => (g a b).map PyData.list) := fun pins s σ ca H x y u1 u2 wx wy w Q I r1 r2 p1 p2 e q => by
  obtain ⟨ws, e1, rfl⟩ := Option.map_eq_some_iff.mp e
  refine thn (h pins s σ ca H x y u1 u2 wx wy ws (fun v H' => ∃ p vs, v = .ref p ∧ H p = none ∧ RpAll D.K ca H ws vs ∧ H' = upd H p (.lst vs)) I r1 r2 p1 p2 e1 fun p vs np pv => ⟨p, vs, rfl, np, pv, rfl⟩) fun v s1 ⟨x1, H1, I1, rv, p, vs, ev, np, pv, eH⟩ => ?_
  subst ev eH
  obtain ⟨od, I2⟩ := I1.lock upd_same trivial
  rw [upd_upd] at I2
  have gr : Same H (upd H p (.frz od (.lst vs))) := Same.upd_new np
  exact ⟨_, _, I2, rv, q _ _ gr (by simp only [Rp]; exact ⟨p, vs, rfl, .inl ⟨od, upd_same⟩, RpAll.mono (.of_same gr) _ _ pv⟩)⟩
theorem DCallF.fz {D : DC} {X : Cx} {f : Value} {g : List W → Option (List W)} (h : DCallF D X f g) : DCall D X f (fun ws => (g ws).map PyData.list) := fun pins s σ ca H xs us ws w Q I r1 p1 e q => by
  obtain ⟨ys, e1, rfl⟩ := Option.map_eq_some_iff.mp e
  refine thn (h pins s σ ca H xs us ws ys (fun v H' => ∃ p vs, v = .ref p ∧ H p = none ∧ RpAll D.K ca H ys vs ∧ H' = upd H p (.lst vs)) I r1 p1 e1 fun p vs np pv => ⟨p, vs, rfl, np, pv, rfl⟩) fun v s1 ⟨x1, H1, I1, rv, p, vs, ev, np, pv, eH⟩ => ?_
  subst ev eH
  obtain ⟨od, I2⟩ := I1.lock upd_same trivial
  rw [upd_upd] at I2
  have gr : Same H (upd H p (.frz od (.lst vs))) := Same.upd_new np
  exact ⟨_, _, I2, rv, q _ _ gr (by simp only [Rp]; exact ⟨p, vs, rfl, .inl ⟨od, upd_same⟩, RpAll.mono (.of_same gr) _ _ pv⟩)⟩
def gPlus (a b : W) : Option W := (gAdd a b).or ((gCatL a b).map PyData.list)
theorem dop_plus {D : DC} {X : Cx} (hK : D.K = X.K) (h : DOp D X (binaryOp .Add) gAdd) : DOp D X (binaryOp .Add) gPlus := h.or (dop_fz (dop_catL hK))
def gTimes (a b : W) : Option W := (gMul a b).or ((gRepL a b).map PyData.list)
theorem dop_times {D : DC} {X : Cx} (hK : D.K = X.K) : DOp D X (binaryOp .Mult) gTimes := (dop_mul hK).or (dop_fz (dop_repL hK))
theorem q_cutT (ha : Qt a) (hl : Qt lo) (hh : Qt hi) : Qt (eCutT a lo hi) := ha.bind fun x => hl.bind fun y => hh.bind fun z => by
  intro s w s' h
  split at h
  · first
      | (cases h; rfl)
      | exact qt_opt _ _ _ _ h
      | (split at h <;> first | (cases h; rfl) | cases h)
  all_goals first
    | (cases h; rfl)
    | cases h
    | exact qt_opt _ _ _ _ h
    | (split at h <;> first | (cases h; rfl) | cases h)
theorem q_cut (ha : Qt a) (hl : Qt lo) (hh : Qt hi) : Qt (fCut a lo hi) := ha.bind fun x => hl.bind fun y => hh.bind fun z => by
  intro s w s' h
  split at h
  · first
      | (cases h; rfl)
      | exact qt_opt _ _ _ _ h
      | (split at h <;> first | (cases h; rfl) | cases h)
  all_goals first
    | (cases h; rfl)
    | cases h
    | exact qt_opt _ _ _ _ h
    | (split at h <;> first | (cases h; rfl) | cases h)
end
end DL
namespace DL
open PySem PySem.Spec PyProof.Rows L2

/-! ### the state of the script -/
def hnd (k : Nat) : W := .dict [(.none, .int k)]
def hndOf : W → Option Nat
  | .dict [(.none, .int k)] => if 0 ≤ k then some k.toNat else none
  | _ => none
theorem hndOf_eq {w : W} {k : Nat} (h : hndOf w = some k) : w = hnd k := by
  unfold hndOf at h
  split at h
  · rename_i j
    split at h
    · cases h
      unfold hnd
      rw [Int.toNat_of_nonneg (by assumption)]
    · cases h
  · cases h
/-- the slot i holds the state: its cell -/
def cellAt (m : MS) (i : Nat) : Option (Nat × List Int × List Int × Int × Int) := match m.env[i]? with
  | some (some (.fz w)) => match hndOf w with
    | some k => match m.cells[k]? with
      | some (.draw cs ls a r) => some (k, cs, ls, a, r)
      | _ => none
    | none => none
  | _ => none
theorem cellAt_inv {m : MS} {i k : Nat} {cs ls : List Int} {a r : Int} (h : cellAt m i = some (k, cs, ls, a, r)) : m.env[i]? = some (some (.fz (hnd k))) ∧ m.cells[k]? = some (.draw cs ls a r) := by
  unfold cellAt at h
  split at h
  · rename_i w e1
    split at h
    · rename_i j e2
      split at h
      · rename_i cs' ls' a' r' e3
        cases h
        rw [hndOf_eq e2] at e1
        exact ⟨e1, e3⟩
      · cases h
    · cases h
  · cases h
section
variable {D : DC} {ca : CA} {σ : L2.St} {H : Hp} {ms : MS}
theorem Rel.cell_at (r : Rel D ca σ H ms) (st : D.st = true) {i k : Nat} {cs ls : List Int} {a rm : Int} (h : cellAt ms i = some (k, cs, ls, a, rm)) :
    ∃ s c l, σ[i]? = some (some (.ref s)) ∧ ca[k]? = some [s, c, l] ∧ H s = some (.dK [(Sum.inr "cells", .ref c), (Sum.inr "lefts", .ref l), (Sum.inr "at", .int a), (Sum.inr "room", .int rm)]) ∧ H c = some (.lst (cs.map V.int)) ∧ H l = some (.lst (ls.map V.int)) := by
  obtain ⟨h1, h2⟩ := cellAt_inv h
  obtain ⟨v, e1, q⟩ := r.slots i _ h1
  have q : Rp D.K ca H (.dict [(.none, .int (k : Int))]) v := q
  simp only [Rp] at q
  rcases q with ⟨k', a', as, ek, ec, rfl⟩ | ⟨p, ps, _, _, rk⟩
  · have ek : k' = k := by have := ek.symm; simp at this; omega
    subst ek
    obtain ⟨s, c, l, e, a1, a2, a3⟩ := r.cells k' _ _ h2 ec
    cases e
    exact ⟨a', c, l, e1, ec, a1, a2, a3⟩
  · simp only [RpKv] at rk
    obtain ⟨q', _, _, _, e, _⟩ := rk
    cases q' <;> simp [kW] at e
theorem nd_get {ca : CA} (nd : ca.flatten.Nodup) {k j : Nat} {as bs : List Addr} {b : Addr} (h1 : ca[k]? = some as) (h2 : ca[j]? = some bs) (m1 : b ∈ as) (m2 : b ∈ bs) : k = j := by
  induction ca generalizing k j with
  | nil => simp at h1
  | cons x xs ih =>
    rw [List.flatten_cons, List.nodup_append] at nd
    obtain ⟨_, n2, n3⟩ := nd
    cases k with
    | zero =>
      cases j with
      | zero => rfl
      | succ j =>
        simp at h1 h2
        subst h1
        exact absurd rfl (n3 b m1 b (flat_mem h2 m2))
    | succ k =>
      cases j with
      | zero =>
        simp at h1 h2
        subst h2
        exact absurd rfl (n3 b m2 b (flat_mem h1 m1))
      | succ j => exact congrArg Nat.succ (ih n2 (k := k) (j := j) (by simpa using h1) (by simpa using h2))
theorem nd_in {ca : CA} (nd : ca.flatten.Nodup) {k : Nat} {as : List Addr} (h1 : ca[k]? = some as) : as.Nodup := by
  induction ca generalizing k with
  | nil => simp at h1
  | cons x xs ih =>
    rw [List.flatten_cons, List.nodup_append] at nd
    cases k with
    | zero => simp at h1; subst h1; exact nd.1
    | succ k => exact ih nd.2.1 (by simpa using h1)
/-- the same cell, later -/
theorem Rel.cell_again (r : Rel D ca σ H ms) (st : D.st = true) {i k k0 : Nat} {cs ls : List Int} {a rm : Int} {s c l : Addr} (h : cellAt ms i = some (k, cs, ls, a, rm)) (hs : σ[i]? = some (some (.ref s))) (hk : ca[k0]? = some [s, c, l]) :
    k = k0 ∧ H s = some (.dK [(Sum.inr "cells", .ref c), (Sum.inr "lefts", .ref l), (Sum.inr "at", .int a), (Sum.inr "room", .int rm)]) ∧ H c = some (.lst (cs.map V.int)) ∧ H l = some (.lst (ls.map V.int)) := by
  obtain ⟨s1, c1, l1, h1, h2, h3, h4, h5⟩ := r.cell_at st h
  rw [hs] at h1
  cases h1
  have e := nd_get r.nd h2 hk (b := s) (by simp) (by simp)
  subst e
  rw [hk] at h2
  cases h2
  exact ⟨rfl, h3, h4, h5⟩
/-- a cell's object is written -/
theorem Rel.cell_set (r : Rel D ca σ H ms) (st : D.st = true) {k : Nat} {as : List Addr} {b : Addr} {o o' : HO} {c c' : Cell} (hc : ms.cells[k]? = some c) (ha : ca[k]? = some as) (hb : b ∈ as) (ho : H b = some o) (mu : Mut (some o)) (new : CellAt D.K ca (upd H b o') c' as) :
    Rel D ca σ (upd H b o') { ms with cells := ms.cells.set k c' } := by
  have kp : Kp H (upd H b o') := Kp.upd_mut ho mu
  have hf := flat_mem ha hb
  refine ⟨?_, fun j d bs e1 e2 => ?_, r.nd, r.pre, fun x u e hn => ?_, r.new, r.slen, fun i y e => ?_, r.sep, r.c0, r.oca⟩
  · have hl := r.len
    rw [if_pos st] at hl ⊢
    simpa using hl
  · have e1 : (ms.cells.set k c')[j]? = some d := e1
    by_cases hk : k = j
    · subst hk
      have hlt : k < ms.cells.length := by
        rcases Nat.lt_or_ge k ms.cells.length with h | h
        · exact h
        · rw [List.getElem?_eq_none h] at hc; cases hc
      rw [List.getElem?_set_self hlt] at e1
      cases e1
      rw [ha] at e2
      cases e2
      exact new
    · rw [List.getElem?_set_ne hk] at e1
      exact (r.cells j d bs e1 e2).at_ kp fun x hx u h => by
        rw [upd_ne (fun z => by subst z; exact hk (nd_get r.nd ha e2 hb hx))]; exact h
  · by_cases hx : x = b
    · subst hx
      exfalso
      rcases r.ca_split hf with h | h
      · exact hn st h
      · have := r.new x h
        rw [e] at this; cases this
    · rw [upd_ne hx]
      exact r.fr x u e hn
  · have e : ms.env[i]? = some (some y) := e
    obtain ⟨v, e1, q⟩ := r.slots i y e
    refine ⟨v, e1, ?_⟩
    cases y with
    | fz w => exact Rp.mono ⟨kp, List.prefix_refl _⟩ _ _ q
    | ow xs =>
      obtain ⟨p, rfl, h0, vs, a1, a2⟩ := q
      have hne : p ≠ b := fun z => by subst z; exact r.oca i p (by rw [e]; rfl) e1 hf
      exact ⟨p, rfl, h0, vs, by rw [upd_ne hne]; exact a1, RpAll.mono ⟨kp, List.prefix_refl _⟩ _ _ a2⟩
    | od xs =>
      obtain ⟨p, rfl, h0, vs, a1, a2⟩ := q
      have hne : p ≠ b := fun z => by subst z; exact r.oca i p (by rw [e]; rfl) e1 hf
      exact ⟨p, rfl, h0, vs, by rw [upd_ne hne]; exact a1, RpKv.mono ⟨kp, List.prefix_refl _⟩ _ _ a2⟩
end
/-- state['at'] -/
def eCAt (i : Nat) : EM := fun m => match cellAt m i with
  | some (_, _, _, a, _) => .ok (.int a) m
  | none => .bad
/-- len(state['cells']) -/
def eCLen (i : Nat) : EM := fun m => match cellAt m i with
  | some (_, cs, _, _, _) => .ok (.int cs.length) m
  | none => .bad
/-- state['cells'][e] -/
def eCCell (i : Nat) (a : EM) : EM := fun m => match cellAt m i with
  | some _ => (a m).bind fun k m => match cellAt m i with
    | some (_, cs, _, _, _) => match k with
      | .int k => match atI cs k with
        | some x => .ok (.int x) m
        | none => .bad
      | _ => .bad
    | none => .bad
  | none => .bad
def eCLeft (i : Nat) (a : EM) : EM := fun m => match cellAt m i with
  | some _ => (a m).bind fun k m => match cellAt m i with
    | some (_, _, ls, _, _) => match k with
      | .int k => match atI ls k with
        | some x => .ok (.int x) m
        | none => .bad
      | _ => .bad
    | none => .bad
  | none => .bad
def sCAt (i : Nat) (a : EM) : SM := fun m => (a m).bind fun w m => match cellAt m i with
  | some (k, cs, ls, _, r) => match w with
    | .int x => .ok .next { m with cells := m.cells.set k (.draw cs ls x r) }
    | _ => .bad
  | none => .bad
def sCLeft (i : Nat) (b a : EM) : SM := fun m => (a m).bind fun w m => match cellAt m i with
  | some _ => match b m with
    | .ok (.int t) m => match cellAt m i with
      | some (k, cs, ls, at_, r) => match w with
        | .int x => match ixN ls.length t with
          | some j => .ok .next { m with cells := m.cells.set k (.draw cs (ls.set j x) at_ r) }
          | none => .bad
        | _ => .bad
      | none => .bad
    | _ => .bad
  | none => .bad
theorem rp_intsAt {K : PySem.W.Frag} {ca : CA} {H : Hp} {cs : List Int} {k x : Int} (h : atI cs k = some x) : atI (cs.map V.int) k = some (.int x) := by
  unfold atI at h ⊢
  rw [List.length_map]
  cases e : ixN cs.length k with
  | none => rw [e] at h; cases h
  | some j =>
    rw [e] at h
    have h : cs[j]? = some x := h
    show (cs.map V.int)[j]? = _
    rw [List.getElem?_map, h]
    rfl
section
variable {D : DC} {Wx : WX} {X : Cx} {e b : Expr} {me mb : EM} {i j : Nat} {x : Str} {p1 p2 p3 p4 p5 pos : Pos}
/-- the state's dict at a text key -/
theorem pe_stk {key : Str} {kj : Nat} (hu : X.A.units + 1 < cLine) (hN : X.N[i]? = some x) (hv : Vis X.env.scope x) (hs : NoSl (.Constant (.str key) j p2)) (hd : (x == ("__debug__" : Str)) = false := by decide) (hcd : (x == ("__classdict__" : Str)) = false := by decide) :
    PE X (.Subscript (.Name x p1) (.Constant (.str key) j p2) pos) (fun σ H Q => ∃ a v kvs, σ[i]? = some (some (.ref a)) ∧ H a = some (.dK kvs) ∧ valV kvs (Sum.inr key) = some v ∧ Q v H) :=
  PE.mono (pe_dget hu (pe_var hN hv hd hcd) pe_str hs) fun σ H Q ⟨a, v, kvs, h1, h2, h3, q⟩ => ⟨.ref a, h1, a, v, rfl, .inl ⟨kvs, Sum.inr key, .inl h2, rfl, h3.symm⟩, q⟩
theorem de_cAt (hu : X.A.units + 1 < cLine) (st : D.st = true) (hN : X.N[i]? = some x) (hv : Vis X.env.scope x) (hs : NoSl (.Constant (.str "at") j p2)) (hd : (x == ("__debug__" : Str)) = false := by decide) (hcd : (x == ("__classdict__" : Str)) = false := by decide) :
    DE D Wx X (.Subscript (.Name x p1) (.Constant (.str "at") j p2) pos) (eCAt i) := PE.mono (pe_stk (kj := 0) hu hN hv hs hd hcd) fun σ H Q ⟨ca, ms, r, h⟩ => by
  unfold eCAt at h
  cases ec : cellAt ms i with
  | none => rw [ec] at h; exact h.elim
  | some t =>
    obtain ⟨k, cs, ls, a, rm⟩ := t
    rw [ec] at h
    obtain ⟨s, c, l, h1, h2, h3, h4, h5⟩ := r.cell_at st ec
    exact ⟨s, .int a, _, h1, h3, rfl, h _ ca H (.refl _ _) r rp_int⟩
theorem de_cCell (hu : X.A.units + 1 < cLine) (st : D.st = true) (hN : X.N[i]? = some x) (hv : Vis X.env.scope x) (hs : NoSl (.Constant (.str "cells") j p2)) (he : DE D Wx X e me) (hs2 : PlainIx e) (hd : (x == ("__debug__" : Str)) = false := by decide) (hcd : (x == ("__classdict__" : Str)) = false := by decide) :
    DE D Wx X (.Subscript (.Subscript (.Name x p1) (.Constant (.str "cells") j p2) p3) e pos) (eCCell i me) := PE.mono (pe_ix ix_list (pe_stk (kj := 0) hu hN hv hs hd hcd) he hs2) fun σ H Q ⟨ca, ms, r, h⟩ => by
  unfold eCCell at h
  cases ec : cellAt ms i with
  | none => rw [ec] at h; exact h.elim
  | some t =>
    obtain ⟨k, cs, ls, a, rm⟩ := t
    rw [ec] at h
    obtain ⟨s, c, l, h1, h2, h3, h4, h5⟩ := r.cell_at st ec
    refine ⟨s, .ref c, _, h1, h3, rfl, RdE.bind r h fun wk kv ms1 ca1 H1 x1 r1 pk hh => ?_⟩
    cases ec1 : cellAt ms1 i with
    | none => rw [ec1] at hh; exact hh.elim
    | some t1 =>
      obtain ⟨k1, cs1, ls1, a1, rm1⟩ := t1
      rw [ec1] at hh
      obtain ⟨rfl, g3, g4, g5⟩ := r1.cell_again st ec1 h1 (pre_get x1.pre h2)
      cases wk with
      | int t =>
        obtain rfl := pk.int
        cases ea : atI cs1 t with
        | none => simp only [ea] at hh; exact hh.elim
        | some y =>
          simp only [ea] at hh
          exact ⟨c, _, t, .int y, rfl, rfl, .of g4, rp_intsAt (K := D.K) (ca := ca1) (H := H1) ea, hh _ ca1 H1 x1 r1 rp_int⟩
      | _ => exact hh.elim
theorem de_cLeft (hu : X.A.units + 1 < cLine) (st : D.st = true) (hN : X.N[i]? = some x) (hv : Vis X.env.scope x) (hs : NoSl (.Constant (.str "lefts") j p2)) (he : DE D Wx X e me) (hs2 : PlainIx e) (hd : (x == ("__debug__" : Str)) = false := by decide) (hcd : (x == ("__classdict__" : Str)) = false := by decide) :
    DE D Wx X (.Subscript (.Subscript (.Name x p1) (.Constant (.str "lefts") j p2) p3) e pos) (eCLeft i me) := PE.mono (pe_ix ix_list (pe_stk (kj := 0) hu hN hv hs hd hcd) he hs2) fun σ H Q ⟨ca, ms, r, h⟩ => by
  unfold eCLeft at h
  cases ec : cellAt ms i with
  | none => rw [ec] at h; exact h.elim
  | some t =>
    obtain ⟨k, cs, ls, a, rm⟩ := t
    rw [ec] at h
    obtain ⟨s, c, l, h1, h2, h3, h4, h5⟩ := r.cell_at st ec
    refine ⟨s, .ref l, _, h1, h3, rfl, RdE.bind r h fun wk kv ms1 ca1 H1 x1 r1 pk hh => ?_⟩
    cases ec1 : cellAt ms1 i with
    | none => rw [ec1] at hh; exact hh.elim
    | some t1 =>
      obtain ⟨k1, cs1, ls1, a1, rm1⟩ := t1
      rw [ec1] at hh
      obtain ⟨rfl, g3, g4, g5⟩ := r1.cell_again st ec1 h1 (pre_get x1.pre h2)
      cases wk with
      | int t =>
        obtain rfl := pk.int
        cases ea : atI ls1 t with
        | none => simp only [ea] at hh; exact hh.elim
        | some y =>
          simp only [ea] at hh
          exact ⟨l, _, t, .int y, rfl, rfl, .of g5, rp_intsAt (K := D.K) (ca := ca1) (H := H1) ea, hh _ ca1 H1 x1 r1 rp_int⟩
      | _ => exact hh.elim
theorem de_cLen (hK : D.K = X.K) (hu : X.A.units + 1 < cLine) (st : D.st = true) (hN : X.N[i]? = some x) (hv : Vis X.env.scope x) (hs : NoSl (.Constant (.str "cells") j p2)) (hg : Gl X "len") (hm : X.mg "len" = none)
    (hs2 : starEach [.Subscript (.Name x p1) (.Constant (.str "cells") j p2) p3] X.env = (false, eval (.Subscript (.Name x p1) (.Constant (.str "cells") j p2) p3) X.env) :: starEach [] X.env := by rfl)
    (hd : (x == ("__debug__" : Str)) = false := by decide) (hcd : (x == ("__classdict__" : Str)) = false := by decide) :
    DE D Wx X (.Call (.Name "len" p4) [.Subscript (.Name x p1) (.Constant (.str "cells") j p2) p3] [] pos) (eCLen i) := PE.mono (pe_callB call_len_seq hg hm boot_len (pa_cons (pe_stk (kj := 0) hu hN hv hs hd hcd) pa_nil hs2) (by decide) (by decide) hs2 rfl) fun σ H Q ⟨ca, ms, r, h⟩ => by
  unfold eCLen at h
  cases ec : cellAt ms i with
  | none => rw [ec] at h; exact h.elim
  | some t =>
    obtain ⟨k, cs, ls, a, rm⟩ := t
    rw [ec] at h
    obtain ⟨s, c, l, h1, h2, h3, h4, h5⟩ := r.cell_at st ec
    refine ⟨s, .ref c, _, h1, h3, rfl, c, _, rfl, .inl (.of h4), ?_⟩
    rw [List.length_map]
    exact h _ ca H (.refl _ _) r rp_int
/-! ### the state is written -/
theorem CellAt.draw_at {K : PySem.W.Frag} {ca : CA} {H : Hp} {cs ls : List Int} {a rm : Int} {s c l : Addr} (h1 : H s = some (.dK [(Sum.inr "cells", .ref c), (Sum.inr "lefts", .ref l), (Sum.inr "at", .int a), (Sum.inr "room", .int rm)])) (h2 : H c = some (.lst (cs.map V.int))) (h3 : H l = some (.lst (ls.map V.int))) : CellAt K ca H (.draw cs ls a rm) [s, c, l] :=
  ⟨s, c, l, rfl, h1, h2, h3⟩
theorem ds_cAt (hu : X.A.units + 1 < cLine) (st : D.st = true) (hN : X.N[i]? = some x) (hv : Vis X.env.scope x) (he : DE D Wx X e me) (hs : swapsWith e (some (.Subscript (.Name x p1) (.Constant (.str "at") j p2) p3)) pos.line X.env = pure false)
    (hd : (x == ("__debug__" : Str)) = false := by decide) (hcd : (x == ("__classdict__" : Str)) = false := by decide) : DS D Wx X (.Assign [.Subscript (.Name x p1) (.Constant (.str "at") j p2) p3] e pos) (sCAt i me) :=
  PS.mono (ps_dput hu (pe_var hN hv hd hcd) pe_str he hs) fun Q σ H h => by
    obtain ⟨ca, ms, r, h⟩ := h.inv
    refine RdE.bind r h fun w v ms1 ca1 H1 x1 r1 p1 h1 => ?_
    cases ec : cellAt ms1 i with
    | none => simp only [ec] at h1; exact h1.elim
    | some t =>
      obtain ⟨k, cs, ls, a, rm⟩ := t
      simp only [ec] at h1
      obtain ⟨s, c, l, g1, g2, g3, g4, g5⟩ := r1.cell_at st ec
      cases w with
      | int y =>
        obtain rfl := p1.int
        have hz : (4 : Nat) < sizeLine := by rw [sizeLine_eq]; decide
        have nd := nd_in r1.nd g2
        have n1 : c ≠ s := fun z => by simp [z] at nd
        have n2 : l ≠ s := fun z => by simp [z] at nd
        refine ⟨.ref s, g1, s, _, rfl, DPut.k (k := Sum.inr "at") g3 hz, ?_⟩
        have kp : Kp H1 (upd H1 s (.dK (putK [(Sum.inr "cells", .ref c), (Sum.inr "lefts", .ref l), (Sum.inr "at", .int a), (Sum.inr "room", .int rm)] (Sum.inr "at") (.int y)))) := Kp.upd_mut g3 trivial
        have new : CellAt D.K ca1 (upd H1 s (.dK (putK [(Sum.inr "cells", .ref c), (Sum.inr "lefts", .ref l), (Sum.inr "at", .int a), (Sum.inr "room", .int rm)] (Sum.inr "at") (.int y)))) (.draw cs ls y rm) [s, c, l] :=
          CellAt.draw_at (by rw [upd_same]; rfl) (by rw [upd_ne n1]; exact g4) (by rw [upd_ne n2]; exact g5)
        exact h1 σ ca1 _ (x1.trans ⟨kp, List.prefix_refl _⟩) (r1.cell_set st (cellAt_inv ec).2 g2 (by simp) g3 trivial new)
      | _ => exact h1.elim
theorem ds_cLeft {b : Expr} {mb : EM} (hu : X.A.units + 1 < cLine) (st : D.st = true) (hN : X.N[i]? = some x) (hv : Vis X.env.scope x) (hs0 : NoSl (.Constant (.str "lefts") j p2)) (he : DE D Wx X e me) (hb : DE D W0 X b mb)
    (hsw : swapsWithSole [.Subscript (.Subscript (.Name x p1) (.Constant (.str "lefts") j p2) p3) b p4] e pos.line X.env = pure false := by rfl)
    (hw : swappedStores [.Subscript (.Subscript (.Name x p1) (.Constant (.str "lefts") j p2) p3) b p4] e X.env = pure none := by rfl)
    (hae : (assignEach [.Subscript (.Subscript (.Name x p1) (.Constant (.str "lefts") j p2) p3) b p4] X.env).map (·.2) = [assign (.Subscript (.Subscript (.Name x p1) (.Constant (.str "lefts") j p2) p3) b p4) X.env] := by rfl)
    (ha : ∀ v, assign (.Subscript (.Subscript (.Name x p1) (.Constant (.str "lefts") j p2) p3) b p4) X.env v = (do
      let ov ← holding [v] (eval (.Subscript (.Name x p1) (.Constant (.str "lefts") j p2) p3) X.env)
      let iv ← holding [v, ov] (eval b X.env)
      standAt p4
      holding [v, ov, iv] (setItem ov iv v)
      release [v, ov, iv] []) := by intro _; rfl)
    (hd : (x == ("__debug__" : Str)) = false := by decide) (hcd : (x == ("__classdict__" : Str)) = false := by decide) :
    DS D Wx X (.Assign [.Subscript (.Subscript (.Name x p1) (.Constant (.str "lefts") j p2) p3) b p4] e pos) (sCLeft i mb me) :=
  PS.mono (ps_asg he (pg_sub (pe_stk (kj := 0) hu hN hv hs0 hd hcd) hb set_list ha) hsw hw hae) fun Q σ H h => by
    obtain ⟨ca, ms, r, h⟩ := h.inv
    refine RdE.bind r h fun w v ms1 ca1 H1 x1 r1 p1 h1 => ?_
    cases ec : cellAt ms1 i with
    | none => simp only [ec] at h1; exact h1.elim
    | some t =>
      obtain ⟨k, cs, ls, a, rm⟩ := t
      simp only [ec] at h1
      obtain ⟨s, c, l, g1, g2, g3, g4, g5⟩ := r1.cell_at st ec
      refine ⟨s, .ref l, _, g1, g3, rfl, ?_⟩
      cases eb : mb ms1 with
      | bad => simp only [eb] at h1; exact h1.elim
      | err c fs m => simp only [eb] at h1; exact h1.elim
      | ok wt ms2 =>
        cases wt with
        | int t =>
          simp only [eb] at h1
          refine RdE.okk r1 eb fun kv ca2 H2 x2 r2 p2 => ?_
          obtain rfl := p2.int
          cases ec2 : cellAt ms2 i with
          | none => simp only [ec2] at h1; exact h1.elim
          | some t2 =>
            obtain ⟨k2, cs2, ls2, a2, rm2⟩ := t2
            simp only [ec2] at h1
            obtain ⟨rfl, f3, f4, f5⟩ := r2.cell_again st ec2 g1 (pre_get x2.pre g2)
            cases w with
            | int y =>
              cases ej : ixN ls2.length t with
              | none => simp only [ej] at h1; exact h1.elim
              | some jj =>
                simp only [ej] at h1
                obtain rfl := (Rp.mono x2 _ _ p1).int
                refine ⟨l, _, t, jj, rfl, rfl, f5, by rw [List.length_map]; exact ej, ?_⟩
                have nd := nd_in r1.nd g2
                have n1 : s ≠ l := fun z => by simp [z] at nd
                have n2 : c ≠ l := fun z => by simp [z] at nd
                have kp : Kp H2 (upd H2 l (.lst ((ls2.map V.int).set jj (.int y)))) := Kp.upd_mut f5 trivial
                have new : CellAt D.K ca2 (upd H2 l (.lst ((ls2.map V.int).set jj (.int y)))) (.draw cs2 (ls2.set jj y) a2 rm2) [s, c, l] :=
                  CellAt.draw_at (by rw [upd_ne n1]; exact f3) (by rw [upd_ne n2]; exact f4) (by rw [upd_same, List.map_set])
                exact h1 σ ca2 _ (x1.trans (x2.trans ⟨kp, List.prefix_refl _⟩)) (r2.cell_set st (cellAt_inv ec2).2 (pre_get x2.pre g2) (by simp) f5 trivial new)
            | _ => exact h1.elim
        | _ => simp only [eb] at h1; exact h1.elim
end
end DL
namespace DL
open PySem PySem.Spec PyProof.Rows L2

def fIf (t : TM) (a b : LM) : LM := fun m => (t m).bind fun x m => if x = true then a m else b m
section
variable {D : DC} {Wx : WX} {X : Cx} {c a b : Expr} {mt : TM} {ma mb : LM} {pos : Pos}
theorem df_if (hc : DT D Wx X c mt) (ha : DF D Wx X a ma) (hb : DF D Wx X b mb) : DF D Wx X (.IfExp c a b pos) (fIf mt ma mb) :=
  PE.mono (pe_ifExp hc ha hb) fun σ H Q ⟨ca, ms, r, h⟩ => RdT.bind r h fun k ms1 ca1 H1 x1 r1 h1 => by
    have go : ∀ {rr : R (List W)}, Po D Wx σ ca H rr (FQ D σ ca H Q) → Po D Wx σ ca1 H1 rr (FQ D σ ca1 H1 Q) := fun {rr} h => (h.ext x1).imp fun w ms' q p vs ca' H' x' => q p vs ca' H' (x1.trans x')
    cases k with
    | true => exact ⟨ca1, ms1, r1, go h1⟩
    | false => exact ⟨ca1, ms1, r1, go h1⟩
/-! ### return {'cells': name, 'lefts': [..], 'at': 0, 'room': 0} -/
def sBegin (i : Nat) (l : LM) : SM := fun m => match ownAt m.env i with
  | some (.ow _) => (l m).bind fun ws m => match ownAt m.env i with
    | some (.ow xs) => match intsOf xs, intsOf ws with
      | some cs, some ls => .ok (.ret (hnd m.cells.length)) { env := m.env.map fun _ => none, cells := m.cells ++ [.draw cs ls 0 0] }
      | _, _ => .bad
    | _ => .bad
  | _ => .bad
theorem Rel.newcell {D : DC} {ca : CA} {σ : L2.St} {H : Hp} {ms : MS} {as : List Addr} {c : Cell} (r : Rel D ca σ H ms) (st : D.st = true) (hnd : as.Nodup) (hca : ∀ b ∈ as, b ∉ ca.flatten) (h0 : ∀ b ∈ as, D.H0 b = none) (hc : CellAt D.K (ca ++ [as]) H c as) :
    Rel D (ca ++ [as]) σ H { env := ms.env.map fun _ => none, cells := ms.cells ++ [c] } := by
  have hl := r.len
  rw [if_pos st] at hl
  have noown : ∀ i : Nat, Sl.isOwn (ms.env.map fun _ => (none : Option Sl))[i]? = false := fun i => by
    rw [List.getElem?_map]
    cases ms.env[i]? <;> rfl
  have up : ∀ {d : Cell} {bs : List Addr}, CellAt D.K ca H d bs → CellAt D.K (ca ++ [as]) H d bs := fun {d bs} h => by
    cases d with
    | draw cs ls a rm => exact h
    | inst cn fs =>
      obtain ⟨x, dx, fs', e, a1, a2, a3⟩ := h
      exact ⟨x, dx, fs', e, a1, a2, RpFs.mono ⟨.refl _, List.prefix_append _ _⟩ _ _ a3⟩
  obtain ⟨t, et⟩ := r.pre
  refine ⟨?_, fun k d bs e1 e2 => ?_, ?_, r.pre.trans (List.prefix_append _ _), r.fr, fun b hb => ?_, by show (ms.env.map _).length = _; rw [List.length_map, r.slen], fun i y e => ?_, fun i j v _ e => ?_, r.c0, fun i p e => ?_⟩
  · rw [if_pos st]
    show (ms.cells ++ [c]).length = (ca ++ [as]).length
    rw [List.length_append, List.length_append, hl]
    rfl
  · have e1 : (ms.cells ++ [c])[k]? = some d := e1
    by_cases hk : k < ms.cells.length
    · rw [List.getElem?_append_left hk] at e1
      rw [List.getElem?_append_left (by rw [← hl]; exact hk)] at e2
      exact up (r.cells k d bs e1 e2)
    · have hk2 : k = ms.cells.length := by
        have : k < (ms.cells ++ [c]).length := by
          rcases Nat.lt_or_ge k (ms.cells ++ [c]).length with h | h
          · exact h
          · rw [List.getElem?_eq_none h] at e1; cases e1
        simp at this
        omega
      subst hk2
      rw [List.getElem?_append_right (Nat.le_refl _), Nat.sub_self] at e1
      rw [hl, List.getElem?_append_right (Nat.le_refl _), Nat.sub_self] at e2
      cases e1
      cases e2
      exact hc
  · rw [List.flatten_append, List.flatten_cons, List.flatten_nil, List.append_nil, List.nodup_append]
    exact ⟨r.nd, hnd, fun b hb b' hb' z => hca b' hb' (z ▸ hb)⟩
  · have hle : D.ca0.length ≤ ca.length := by rw [← et]; simp
    rw [List.drop_append_of_le_length hle, List.flatten_append] at hb
    rcases List.mem_append.mp hb with h | h
    · exact r.new b h
    · exact h0 b (by simpa using h)
  · have e : (ms.env.map fun _ => (none : Option Sl))[i]? = some (some y) := e
    rw [List.getElem?_map] at e
    cases e2 : ms.env[i]? <;> rw [e2] at e <;> cases e
  · have e : Sl.isOwn (ms.env.map fun _ => (none : Option Sl))[i]? = true := e
    rw [noown i] at e; cases e
  · have e : Sl.isOwn (ms.env.map fun _ => (none : Option Sl))[i]? = true := e
    rw [noown i] at e; cases e
theorem ds_begin {i : Nat} {x : Str} {p0 p1 p2 p3 p4 p5 p6 q2 : Pos} {j1 j2 j3 j4 j5 j6 : Nat} {e : Expr} {l : LM} (st : D.st = true) (hN : X.N[i]? = some x) (hv : Vis X.env.scope x) (hf : ∀ D' : DC, D'.K = X.K → D'.st = D.st → DF D' Wx X e l) (hK : D.K = X.K)
    (hd : (x == ("__debug__" : Str)) = false := by decide) (hcd : (x == ("__classdict__" : Str)) = false := by decide) :
    DS D Wx X (.Return (some (.Dict [some (.Constant (.str "cells") j1 p1), some (.Constant (.str "lefts") j2 p2), some (.Constant (.str "at") j3 p3), some (.Constant (.str "room") j4 p4)] [.Name x q2, e, .Constant (.int 0) j5 p5, .Constant (.int 0) j6 p6] p0)) pos) (sBegin i l) := by
  refine PS.mono (ps_ret (pe_disp (pps_cons pe_str (pe_var hN hv hd hcd) (pps_cons pe_str (⟨fun pins s σ H Q I ⟨D', h1, h2, hw⟩ => (hf D' h1 h2).run pins s σ H Q I hw⟩ : PE X e (fun σ H Q => ∃ D' : DC, D'.K = X.K ∧ D'.st = D.st ∧ RdF D' Wx l σ H Q)) (pps_cons pe_str pe_int (pps_cons pe_str pe_int pps_nil)))) rfl rfl (by simp) (by simp))) fun Q σ H h => ?_
  obtain ⟨ca, ms, r, h⟩ := h.inv
  unfold sBegin at h
  cases ex : ownAt ms.env i with
  | none => rw [ex] at h; exact h.elim
  | some x =>
    cases x with
    | fz w => rw [ex] at h; exact h.elim
    | od w => rw [ex] at h; exact h.elim
    | ow xs0 =>
      rw [ex] at h
      refine fun p np => ?_
      obtain ⟨c, o, hσ, ⟨vs0, hc0, _⟩, _, _, hc0n⟩ := r.own_at ex
      refine ⟨.ref c, hσ, D.guard p (.dK []), hK, rfl, ca, ms, r.guard np, ?_⟩
      have hp0 := r.h0_none np
      have hpc := r.not_ca0 np
      have un : ∀ ca' σ' H' ms', Rel (D.guard p (.dK [])) ca' σ' H' ms' → Rel D ca' σ' H' ms' := fun ca' σ' H' ms' r' => r'.unguard hp0 hpc
      have kp0 : Kp H (upd H p (.dK [])) := Kp.upd_new np
      have xx0 : Ext ca H ca (upd H p (.dK [])) := ⟨kp0, List.prefix_refl _⟩
      cases el : l ms with
      | bad => rw [el] at h; exact h.elim
      | err cn fs m =>
        rw [el] at h
        exact fun cls d σ' ca' H' x' rl er => h cls d σ' ca' H' (xx0.trans x') (un _ _ _ _ rl) er
      | ok ws ms1 =>
        rw [el] at h
        have h : Po D Wx σ ca H (match ownAt ms1.env i with
          | some (.ow xs) => match intsOf xs, intsOf ws with
            | some cs, some ls => .ok (.ret (hnd ms1.cells.length)) { env := ms1.env.map fun _ => none, cells := ms1.cells ++ [.draw cs ls 0 0] }
            | _, _ => .bad
          | _ => .bad) (FP D ca H Q) := h
        cases ex1 : ownAt ms1.env i with
        | none => rw [ex1] at h; exact h.elim
        | some x =>
          cases x with
          | fz w => rw [ex1] at h; exact h.elim
          | od w => rw [ex1] at h; exact h.elim
          | ow xs =>
            rw [ex1] at h
            cases ei : intsOf xs with
            | none => simp only [ei] at h; exact h.elim
            | some cs =>
              cases ej : intsOf ws with
              | none => simp only [ei, ej] at h; exact h.elim
              | some ls =>
                simp only [ei, ej] at h
                refine fun q vs ca' H' x' rg nq pv => ?_
                have hpH := rg.at_guard hpc
                have r0 := rg.ungrow hpc hp0 Mut_dK
                have hqp : q ≠ p := fun z => by subst z; rw [hpH] at nq; cases nq
                obtain ⟨c', o', hσ', ⟨vs1, hc1, rv1⟩, _, _, hcn⟩ := r0.own_at ex1
                rw [hσ] at hσ'
                cases hσ'
                have hcp : c ≠ p := fun z => by subst z; rw [erase_same] at hc1; cases hc1
                have hc1' : H' c = some (.lst vs1) := by rw [erase_ne hcp] at hc1; exact hc1
                have hcq : c ≠ q := fun z => by subst z; rw [hc1'] at nq; cases nq
                obtain ⟨h2, h3⟩ := ownAt_some ex1
                have hcca := r0.oca i c (by rw [h2]; exact h3) hσ
                have npe : erase H' p p = none := erase_same
                have nqe : erase H' p q = none := by rw [erase_ne hqp]; exact nq
                have e1 := intsOf_rp rv1 ei
                have e2 := intsOf_rp pv ej
                subst e1
                subst e2
                have hup : ∀ kvs : List (Key × V), upd (upd H' q (.lst (ls.map V.int))) p (.dK kvs) = upd (upd (erase H' p) q (.lst (ls.map V.int))) p (.dK kvs) := fun kvs => by
                  funext b
                  by_cases hb : b = p
                  · subst hb; rw [upd_same, upd_same]
                  · rw [upd_ne hb, upd_ne hb]
                    by_cases hb2 : b = q
                    · subst hb2; rw [upd_same, upd_same]
                    · rw [upd_ne hb2, upd_ne hb2, erase_ne hb]
                refine ⟨by rw [upd_ne (Ne.symm hqp)]; exact hpH, [(Sum.inr "cells", .ref c), (Sum.inr "lefts", .ref q), (Sum.inr "at", .int 0), (Sum.inr "room", .int 0)], rfl, by simp, ?_⟩
                show Q.rt (.ref p) (upd (upd H' q (.lst (ls.map V.int))) p (.dK [(Sum.inr "cells", .ref c), (Sum.inr "lefts", .ref q), (Sum.inr "at", .int 0), (Sum.inr "room", .int 0)]))
                rw [hup]
                have g1 : Same (erase H' p) (upd (erase H' p) q (.lst (ls.map V.int))) := Same.upd_new nqe
                have npe2 : upd (erase H' p) q (.lst (ls.map V.int)) p = none := by rw [upd_ne (Ne.symm hqp)]; exact npe
                have g2 : Same (upd (erase H' p) q (.lst (ls.map V.int))) (upd (upd (erase H' p) q (.lst (ls.map V.int))) p (.dK [(Sum.inr "cells", .ref c), (Sum.inr "lefts", .ref q), (Sum.inr "at", .int 0), (Sum.inr "room", .int 0)])) := Same.upd_new npe2
                have r1 := (r0.grow g1).grow g2
                have fin := r1.newcell (as := [p, c, q]) (c := .draw cs ls 0 0) st (by simp [hqp, hcq, hcp, Ne.symm hcp, Ne.symm hqp]) (fun b hb => by
                    have e : b = p ∨ b = c ∨ b = q := by simpa using hb
                    rcases e with rfl | rfl | rfl
                    · exact r0.not_ca npe
                    · exact hcca
                    · exact r0.not_ca nqe) (fun b hb => by
                    have e : b = p ∨ b = c ∨ b = q := by simpa using hb
                    rcases e with rfl | rfl | rfl
                    · exact hp0
                    · exact hcn
                    · exact r0.h0_none nqe) (CellAt.draw_at upd_same (by rw [upd_ne hcp, upd_ne hcq]; exact hc1) (by rw [upd_ne hqp, upd_same]))
                have hl := r1.len
                rw [if_pos st] at hl
                have kk : Kp H (upd (upd (erase H' p) q (.lst (ls.map V.int))) p (.dK [(Sum.inr "cells", .ref c), (Sum.inr "lefts", .ref q), (Sum.inr "at", .int 0), (Sum.inr "room", .int 0)])) :=
                  kp0.trans (x'.kp.trans ((Kp.erase hpH Mut_dK).trans ((Kp.of_same g1).trans (.of_same g2))))
                refine h (.ref p) σ (ca' ++ [[p, c, q]]) _ ⟨kk, x'.pre.trans (List.prefix_append _ _)⟩ fin ?_
                unfold hnd
                simp only [Rp]
                refine .inl ⟨ms1.cells.length, p, [c, q], rfl, ?_, rfl⟩
                have hl : ms1.cells.length = ca'.length := hl
                rw [hl, List.getElem?_append_right (Nat.le_refl _), Nat.sub_self]
                rfl
end
end DL
namespace DL
open PySem PySem.Spec PyProof.Rows L2

/-! ### small things the printed texts lean on -/
theorem hu_of {k : Nat} {A : Around} (r : Room k A) : A.units + 65 < cLine := by have := r.un; omega
theorem hu64 {A : Around} (r : A.units + 65 < cLine) : A.units + 64 < cLine := by omega
theorem hu1 {A : Around} (r : A.units + 65 < cLine) : A.units + 1 < cLine := by omega
theorem DCall.or {D : DC} {X : Cx} {f : Value} {g g' : List W → Option W} (h : DCall D X f g) (h' : DCall D X f g') : DCall D X f (fun ws => (g ws).or (g' ws)) := fun pins s σ ca H xs us ws w Q I r p e q => by
  have e : (g ws).or (g' ws) = some w := e
  cases e1 : g ws with
  | some w' =>
    rw [e1] at e
    cases e
    exact h pins s σ ca H xs us ws w Q I r p e1 q
  | none =>
    rw [e1] at e
    exact h' pins s σ ca H xs us ws w Q I r p e q
theorem DCallF.or {D : DC} {X : Cx} {f : Value} {g g' : List W → Option (List W)} (h : DCallF D X f g) (h' : DCallF D X f g') : DCallF D X f (fun ws => (g ws).or (g' ws)) := fun pins s σ ca H xs us ws w Q I r p e q => by
  have e : (g ws).or (g' ws) = some w := e
  cases e1 : g ws with
  | some w' =>
    rw [e1] at e
    cases e
    exact h pins s σ ca H xs us ws w Q I r p e1 q
  | none =>
    rw [e1] at e
    exact h' pins s σ ca H xs us ws w Q I r p e q
def gListA (ws : List W) : Option (List W) := (gList ws).or (gKeys ws)
def gSumT : List W → Option W
  | [.tuple xs] => (intsOf xs).map fun bs => .int bs.sum
  | _ => none
def gSumA (ws : List W) : Option W := (gSum ws).or (gSumT ws)
def gMinA (ws : List W) : Option W := (gMin2 ws).or (gMinL ws)
def gMaxA (ws : List W) : Option W := (gMax2 ws).or (gMaxL ws)
/-- code that is not come to -/
def sBad : SM := fun _ => .bad
def eUn (g : W → Option W) (a : EM) : EM := fun m => (a m).bind fun x m => opt (g x) m
def gNeg : W → Option W
  | .int i => some (.int (-i))
  | _ => none
def sFrz (i : Nat) : SM := fun m => match ownAt m.env i with
  | some x => .ok .next { m with env := m.env.set i (some (.fz (frW x))) }
  | none => .ok .next m
section
variable {D : DC} {Wx : WX} {X : Cx} {e e2 : Expr} {me mf : EM} {mt : TM} {pos p : Pos} {st : Stmt} {rest : List Stmt} {m : SM} {i : Nat}
theorem dc_sumT (hK : D.K = X.K) (hc : X.calm = true) : DCall D X (.builtin "sum") gSumT := fun pins s σ ca H xs us ws w Q I r1 p1 e q => by
  unfold gSumT at e
  split at e
  · obtain ⟨ns, e1, rfl⟩ := Option.map_eq_some_iff.mp e
    rw [hK] at p1
    obtain ⟨v, rfl, h1⟩ := p1.inv1
    obtain ⟨a, vs, rfl, f, ra⟩ := h1.tup
    obtain ⟨u, rfl, ru⟩ := r1.one
    cases ru
    have ei := intsOf_rp ra e1
    subst ei
    obtain ⟨its, rv, hl, _⟩ := I.tuple f.sq
    have hi : IntsAre its ns := rv.ints
    have ht : s.heap.IsTuple a its.toArray := tup_is hl
    obtain ⟨xs, hx⟩ := hi.allInts.items
    have hn : numsOf its.toArray.toList = ns := by rw [List.toList_toArray]; exact hi.numsOf
    rw [hx] at ht hn
    rw [nums_intItems] at hn
    refine PySem.W.ktm_sumG (I.ok.hd hc) ht fun h' tk t' hk => ?_
    rw [preSum_eq, List.take_of_length_le (by simp), hn]
    exact ⟨.int ns.sum, H, I.kept hk, ⟨_, rfl⟩, q _ H (fun _ _ h => h) rp_int⟩
  · cases e
theorem dc_sumA (hK : D.K = X.K) (hc : X.calm = true) : DCall D X (.builtin "sum") gSumA := DCall.or (dc_sum hK hc) (dc_sumT hK hc)
theorem dc_listA (hK : D.K = X.K) (hc : X.calm = true) : DCallF D X (.type "list") gListA := (dc_list hK).or (dc_keys hc)
theorem dc_minA (hK : D.K = X.K) (hc : X.calm = true) (hu : X.A.units + 65 < cLine) : DCall D X (.builtin "min") gMinA := (dc_min2 hc).or (dc_minL hK hc (hu64 hu))
theorem dc_maxA (hK : D.K = X.K) (hc : X.calm = true) (hu : X.A.units + 65 < cLine) : DCall D X (.builtin "max") gMaxA := (dc_max2 hc).or (dc_maxL hK hc (hu64 hu))
theorem ds_bad : DS D Wx X st sBad := PS.mono ps_never fun Q σ H h => by
  obtain ⟨ca, ms, r, h⟩ := h.inv
  exact h
theorem de_neg (h : DE D Wx X e me) : DE D Wx X (.UnaryOp .USub e pos) (eUn gNeg me) := PE.mono (pe_un un_neg h) fun σ H Q ⟨ca, ms, r, h⟩ => RdE.bind r h fun w v ms1 ca1 H1 x1 r1 p1 h1 => by
  obtain ⟨w', e, q⟩ := Po.opt h1
  cases w with
  | int i =>
    cases e
    exact ⟨i, p1.int, q _ ca1 H1 x1 r1 rp_int⟩
  | _ => cases e
theorem q_un {g : W → Option W} (h : Qt me) : Qt (eUn g me) := h.bind fun _ => qt_opt _
theorem pss_maybe {sts : List Stmt} {t : TS} (h : PSs X sts t) : PSs X sts (fun Q σ H => (∃ d u, H d = some u ∧ Mut (some u) ∧ ∀ od, t Q σ (upd H d (.frz od u))) ∨ t Q σ H) :=
  ⟨fun pins s σ H Q I hw => by
    rcases hw with ⟨d, u, hd, mu, hw⟩ | hw
    · obtain ⟨od, I1⟩ := I.lock hd mu
      exact h.run pins s σ _ Q I1 (hw od)
    · exact h.run pins s σ H Q I hw⟩
theorem dss_frz (i : Nat) (h : DSs D Wx X rest m) : DSs D Wx X rest (sSeq (sFrz i) m) := PSs.mono (pss_maybe h) fun Q σ H h => by
  obtain ⟨ca, ms, r, h⟩ := h.inv
  unfold sSeq sFrz at h
  cases e : ownAt ms.env i with
  | none =>
    rw [e] at h
    exact .inr (RdS.of r h)
  | some x =>
    rw [e] at h
    obtain ⟨p, o, hσ, oa, ho, mu, h0⟩ := r.own_at e
    obtain ⟨h1, h2⟩ := ownAt_some e
    exact .inl ⟨p, o, ho, mu, fun od => RdS.of (r.freeze od h1 h2 hσ ho) (Po.goS ⟨Kp.upd_mut ho mu, List.prefix_refl _⟩ h)⟩
theorem pts0 : PTs X [] (RdT D W0 tYesM) := ⟨fun pins s σ H Q I ⟨ca, ms, r, h⟩ => pts_nil.run pins s σ H Q I (h ca H (.refl _ _) r)⟩
theorem pts1 (h : DT D W0 X e mt) : PTs X [e] (RdT D W0 mt) := pts_one h
/-! list(range(..)) -/
def rgBd (a b : Int) : Bool := Nat.ble a.natAbs 1000000 && Nat.ble b.natAbs 1000000
def fRg1 (a : EM) : LM := fun m => (a m).bind fun x m => match x with
  | .int j => if rgBd 0 j = true then .ok (rngW 0 j.toNat) m else .bad
  | _ => .bad
def fRg2 (a b : EM) : LM := fun m => (a m).bind fun x m => (b m).bind fun y m => match x, y with
  | .int i, .int j => if rgBd i j = true then .ok (rngW i (j - i).toNat) m else .bad
  | _, _ => .bad
theorem rp_rng {K : PySem.W.Frag} {ca : CA} {H : Hp} {lo : Int} {n : Nat} : RpAll K ca H (rngW lo n) ((List.range n).map fun i => V.int (lo + (i : Nat))) := by
  unfold rngW
  generalize List.range n = l
  induction l with
  | nil => simp [RpAll]
  | cons x xs ih =>
    simp only [List.map_cons, RpAll]
    exact ⟨_, _, rfl, rp_int, ih⟩
theorem rgBd_ok {a b : Int} (h : rgBd a b = true) : RgOk a b := by
  unfold rgBd at h
  rw [Bool.and_eq_true] at h
  have h1 := Nat.le_of_ble_eq_true h.1
  have h2 := Nat.le_of_ble_eq_true h.2
  exact ⟨by omega, by omega, by omega, by omega, by omega⟩
theorem df_rg1 {p1 p2 : Pos} (hc : X.calm = true) (hg : Gl X "range") (hm : X.mg "range" = none) (hg2 : Gl X "list") (hm2 : X.mg "list" = none) (h : DE D Wx X e me) (na : starEach [e] X.env = (false, eval e X.env) :: starEach [] X.env := by rfl)
    (nb : starEach [.Call (.Name "range" p1) [e] [] p2] X.env = (false, eval (.Call (.Name "range" p1) [e] [] p2) X.env) :: starEach [] X.env := by rfl) : DF D Wx X (.Call (.Name "list" p) [.Call (.Name "range" p1) [e] [] p2] [] pos) (fRg1 me) :=
  PE.mono (pe_listRg hc hg2 hm2 (prg_1 hg hm h na) nb) fun σ H Q ⟨ca, ms, r, h⟩ => RdE.bind r h fun w v ms1 ca1 H1 x1 r1 p1 h1 => by
    cases w with
    | int j =>
      by_cases hz : rgBd 0 j = true
      · simp only [if_pos hz] at h1
        refine ⟨j, p1.int, rgBd_ok hz, fun q nq => h1 q _ ca1 H1 x1 r1 nq ?_⟩
        unfold rgV
        rw [Int.sub_zero]
        exact rp_rng
      · simp only [if_neg hz] at h1; exact h1.elim
    | _ => exact h1.elim
theorem df_rg2 {p1 p2 : Pos} (hc : X.calm = true) (hg : Gl X "range") (hm : X.mg "range" = none) (hg2 : Gl X "list") (hm2 : X.mg "list" = none) (h : DE D Wx X e me) (h2 : DE D Wx X e2 mf) (na : starEach [e, e2] X.env = (false, eval e X.env) :: starEach [e2] X.env := by rfl)
    (nb : starEach [e2] X.env = (false, eval e2 X.env) :: starEach [] X.env := by rfl) (hp : (backTo p2 (starEach [e2] X.env)).any (·.1) = false := by rfl)
    (nc : starEach [.Call (.Name "range" p1) [e, e2] [] p2] X.env = (false, eval (.Call (.Name "range" p1) [e, e2] [] p2) X.env) :: starEach [] X.env := by rfl) : DF D Wx X (.Call (.Name "list" p) [.Call (.Name "range" p1) [e, e2] [] p2] [] pos) (fRg2 me mf) :=
  PE.mono (pe_listRg hc hg2 hm2 (prg_2 hg hm h h2 na nb hp) nc) fun σ H Q ⟨ca, ms, r, h⟩ => RdE.bind r h fun w v ms1 ca1 H1 x1 r1 p1 h1 => RdE.bind r1 (h1.ext x1) fun w2 v2 ms2 ca2 H2 x2 r2 p2 h2 => by
    cases w with
    | int i =>
      cases w2 with
      | int j =>
        by_cases hz : rgBd i j = true
        · simp only [if_pos hz] at h2
          exact ⟨i, j, p1.int, p2.int, rgBd_ok hz, fun q nq => h2 q _ ca2 H2 (x1.trans x2) r2 nq rp_rng⟩
        · simp only [if_neg hz] at h2; exact h2.elim
      | _ => exact h2.elim
    | _ => exact h2.elim
end
theorem q_rg1 {me : EM} (h : Qt me) : Qt (fRg1 me) := h.bind fun x => by
  cases x with
  | int j => exact qt_ite (qt_ok _) qt_bad
  | _ => exact qt_bad
theorem q_rg2 {me mf : EM} (h : Qt me) (h2 : Qt mf) : Qt (fRg2 me mf) := h.bind fun x => h2.bind fun y => by
  cases x with
  | int i => cases y with
    | int j => exact qt_ite (qt_ok _) qt_bad
    | _ => exact qt_bad
  | _ => exact qt_bad
/-! ### a def with its promise, by its name -/
def Has (P : Program) (w : World) (K : PySem.W.Frag) (mg : Str → Option Value) (base : Heap) (k : Nat) (x : Str) (ps : List Str) (sp : Sp) : Prop :=
  ∃ fd, PySem.W.keepIn K (.ref (He.ga K x)) = true ∧ Binds K fd ps [] ∧ mg x = some (.ref (He.ga K x)) ∧ FnOk P w K mg base (L2.CX P w) k (He.ga K x) fd ps sp
section
variable {D : DC} {Wx : WX} {X : Cx} {k n : Nat} {ps : List Str} {st : Bool} {F : FM} {x : Str} {p pos : Pos} {e : Expr} {es : List Expr} {l : LM}
theorem de_fn (h : Has X.prog X.w X.K X.mg X.base k x ps (callP X.K st F n)) (hr : Room k X.A) (hg : Gl X x) (tk : L2.Takes X Wx) (ha : DA D Wx X (e :: es) l) (hK : D.K = X.K) (hst : st = true → D.st = true) (hn : LQt n l)
    (hdb : (x == ("__debug__" : Str)) = false := by decide) (he : starEach (e :: es) X.env = (false, eval e X.env) :: starEach es X.env := by rfl) (hpl : (backTo pos (starEach es X.env)).any (·.1) = false := by rfl) :
    DE D Wx X (.Call (.Name x p) (e :: es) [] pos) (eCall st F [] l) := by
  obtain ⟨fd, hk, hb, hm, FO⟩ := h
  exact de_call FO hr hg hm hk hb .nil tk ha hK hst (fun ws m m' e => by simpa using hn ws m m' e) (fun ca H => by simp only [RpAll]) hdb he hpl
end
end DL
namespace DL
open PySem PySem.Spec PyProof.Rows L2
theorem bt_all : bootBuiltins "all" = some (.builtin "all") := by decide +kernel
theorem bt_any : bootBuiltins "any" = some (.builtin "any") := by decide +kernel
theorem bt_sum : bootBuiltins "sum" = some (.builtin "sum") := by decide +kernel
theorem bt_len : bootBuiltins "len" = some (.builtin "len") := by decide +kernel
theorem bt_min : bootBuiltins "min" = some (.builtin "min") := by decide +kernel
theorem bt_max : bootBuiltins "max" = some (.builtin "max") := by decide +kernel
theorem bt_sorted : bootBuiltins "sorted" = some (.builtin "sorted") := by decide +kernel
theorem bt_int : bootBuiltins "int" = some (.type "int") := by decide +kernel
theorem bt_str : bootBuiltins "str" = some (.type "str") := by decide +kernel
theorem bt_bool : bootBuiltins "bool" = some (.type "bool") := by decide +kernel
theorem bt_list : bootBuiltins "list" = some (.type "list") := by decide +kernel
theorem bt_tuple : bootBuiltins "tuple" = some (.type "tuple") := by decide +kernel
theorem bt_dict : bootBuiltins "dict" = some (.type "dict") := by decide +kernel
theorem kit_int : ∀ n ∈ isiKinds, kitB n "int" = some (isiT n "int") := by decide +kernel
theorem kit_str : ∀ n ∈ isiKinds, kitB n "str" = some (isiT n "str") := by decide +kernel
theorem kit_bool : ∀ n ∈ isiKinds, kitB n "bool" = some (isiT n "bool") := by decide +kernel
theorem kit_list : ∀ n ∈ isiKinds, kitB n "list" = some (isiT n "list") := by decide +kernel
theorem kit_tuple : ∀ n ∈ isiKinds, kitB n "tuple" = some (isiT n "tuple") := by decide +kernel
theorem kit_dict : ∀ n ∈ isiKinds, kitB n "dict" = some (isiT n "dict") := by decide +kernel
def gSortV (ws : List W) : Option W := (gSortI ws).map PyData.list
def gListV (ws : List W) : Option W := (gListA ws).map PyData.list
theorem dc_sortV {D : DC} {X : Cx} (hK : D.K = X.K) (hc : X.calm = true) : DCall D X (.builtin "sorted") gSortV := DCallF.fz (dc_sortI hK hc)
theorem dc_listV {D : DC} {X : Cx} (hK : D.K = X.K) (hc : X.calm = true) : DCall D X (.type "list") gListV := DCallF.fz (dc_listA hK hc)
end DL
namespace DL
open PySem PySem.Spec PyProof.Rows L2
/-! ### mirrors, step by step -/
theorem cMul_ok {i j : Int} (h1 : 0 ≤ i) (h2 : i < 18446744073709551616) (h3 : 0 ≤ j) (h4 : j < 18446744073709551616) : cMul i j = true := by
  unfold cMul
  have a : i.natAbs.log2 < 64 := by
    by_cases h : i.natAbs = 0
    · rw [h]; decide
    · rw [Nat.log2_lt h]; omega
  have b : j.natAbs.log2 < 64 := by
    by_cases h : j.natAbs = 0
    · rw [h]; decide
    · rw [Nat.log2_lt h]; omega
  show Nat.ble _ _ = true
  exact Nat.ble_eq_true_of_le (by omega)
theorem gTimes_ok {i j : Int} (h1 : 0 ≤ i) (h2 : i < 18446744073709551616) (h3 : 0 ≤ j) (h4 : j < 18446744073709551616) : gTimes (.int i) (.int j) = some (.int (i * j)) := by
  have e : gMulI (.int i) (.int j) = some (.int (i * j)) := by
    show (if cMul i j = true then some (PyData.int (i * j)) else none) = _
    rw [if_pos (cMul_ok h1 h2 h3 h4)]
  unfold gTimes gMul
  rw [e]
  rfl
theorem gPlus_ok {i j : Int} : gPlus (.int i) (.int j) = some (.int (i + j)) := rfl
theorem gMod_ok {i j : Int} (h : 0 < j) : gModI (.int i) (.int j) = some (.int (i % j)) := by
  show (if cMod i j = true then some (PyData.int (i % j)) else none) = _
  rw [if_pos (by unfold cMod; simpa using h)]
theorem gDiv_ok {i j : Int} (h : 0 < j) (h2 : j < 18446744073709551616) : gDivI (.int i) (.int j) = some (.int (i / j)) := by
  show (if cDiv i j = true then some (PyData.int (i / j)) else none) = _
  rw [if_pos ?_]
  unfold cDiv
  rw [Bool.and_eq_true]
  refine ⟨by simpa using h, ?_⟩
  have b : j.natAbs.log2 < 64 := by
    rw [Nat.log2_lt (by omega)]; omega
  exact Nat.ble_eq_true_of_le (by omega)
theorem eBin_ok {g : W → W → Option W} {a b : EM} {m m1 m2 : MS} {x y w : W} (ha : a m = .ok x m1) (hb : b m1 = .ok y m2) (hg : g x y = some w) : eBin g a b m = .ok w m2 := by
  unfold eBin
  rw [ha]
  show (b m1).bind _ = _
  rw [hb]
  show opt (g x y) m2 = _
  rw [hg]
  rfl
theorem sSeq_next {a b : SM} {m m1 : MS} (h : a m = .ok .next m1) : sSeq a b m = b m1 := by
  unfold sSeq
  rw [h]
  rfl
theorem sSeq_ret {a b : SM} {m m1 : MS} {w : W} (h : a m = .ok (.ret w) m1) : sSeq a b m = .ok (.ret w) m1 := by
  unfold sSeq
  rw [h]
  rfl
theorem sSet_ok {i : Nat} {a : EM} {m m1 : MS} {w : W} (h : a m = .ok w m1) : sSet i (vFz a) m = .ok .next { m1 with env := m1.env.set i (some (.fz w)) } := by
  unfold sSet vFz
  rw [h]
  rfl
theorem sRet_ok {a : EM} {m m1 : MS} {w : W} (h : a m = .ok w m1) : sRet a m = .ok (.ret w) m1 := by
  unfold sRet
  rw [h]
  rfl
theorem sIf_t {t : TM} {a b : SM} {m m1 : MS} (h : t m = .ok true m1) : sIf t a b m = a m1 := by
  unfold sIf
  rw [h]
  rfl
theorem sIf_f {t : TM} {a b : SM} {m m1 : MS} (h : t m = .ok false m1) : sIf t a b m = b m1 := by
  unfold sIf
  rw [h]
  rfl
theorem tVal_ok {a : EM} {m m1 : MS} {b : Bool} (h : a m = .ok (.bool b) m1) : tVal a m = .ok b m1 := by
  unfold tVal
  rw [h]
  rfl
theorem aCons_ok {a : EM} {r : LM} {m m1 m2 : MS} {w : W} {ws : List W} (h : a m = .ok w m1) (h2 : r m1 = .ok ws m2) : aCons a r m = .ok (w :: ws) m2 := by
  unfold aCons
  rw [h]
  show (r m1).bind _ = _
  rw [h2]
  rfl
theorem eVar_ok {i : Nat} {m : MS} {w : W} (h : m.env[i]? = some (some (.fz w))) : eVar i m = .ok w m := by
  unfold eVar
  rw [h]
theorem eC_ok {w : W} {m : MS} : eC w m = .ok w m := rfl
theorem aNil_ok {m : MS} : aNil m = .ok [] m := rfl
theorem eOf_ok {g : List W → Option W} {l : LM} {m m1 : MS} {ws : List W} {w : W} (h : l m = .ok ws m1) (h2 : g ws = some w) : eOf g l m = .ok w m1 := by
  unfold eOf
  rw [h]
  show opt (g ws) m1 = _
  rw [h2]
  rfl
theorem eCall_okF {F : FM} {l : LM} {m m1 m2 : MS} {ws : List W} {w : W} (h : l m = .ok ws m1) (h2 : F ws [] = .ok w m2) : eCall false F [] l m = .ok w m1 := by
  unfold eCall
  rw [h]
  show (match F (ws ++ []) [] with
    | .ok w m' => R.ok w { m1 with cells := m1.cells }
    | .err c fs m' => .err c fs { m1 with cells := m1.cells }
    | .bad => .bad) = _
  rw [List.append_nil, h2]
theorem eCall_okT {F : FM} {l : LM} {m m1 m2 : MS} {ws : List W} {w : W} (h : l m = .ok ws m1) (h2 : F ws m1.cells = .ok w m2) : eCall true F [] l m = .ok w { m1 with cells := m2.cells } := by
  unfold eCall
  rw [h]
  show (match F (ws ++ []) m1.cells with
    | .ok w m' => R.ok w { m1 with cells := m'.cells }
    | .err c fs m' => .err c fs { m1 with cells := m'.cells }
    | .bad => .bad) = _
  rw [List.append_nil, h2]
theorem runB_ret {n : Nat} {b : SM} {ws : List W} {cs : List Cell} {w : W} {m : MS} (h : b ⟨ws.map (fun w => some (.fz w)) ++ List.replicate (n - ws.length) none, cs⟩ = .ok (.ret w) m) : runB n b ws cs = .ok w ⟨[], m.cells⟩ := by
  unfold runB
  rw [h]
theorem hndOf_hnd (k : Nat) : hndOf (hnd k) = some k := by
  unfold hndOf hnd
  simp
theorem cellAt_eq {m : MS} {i k : Nat} {cs ls : List Int} {a r : Int} (h1 : m.env[i]? = some (some (.fz (hnd k)))) (h2 : m.cells[k]? = some (.draw cs ls a r)) : cellAt m i = some (k, cs, ls, a, r) := by
  unfold cellAt
  rw [h1]
  simp only [hndOf_hnd]
  rw [h2]
theorem ixN_ok {n : Nat} {i : Int} (h0 : 0 ≤ i) (h1 : i < n) : ixN n i = some i.toNat := by
  unfold ixN
  rw [if_pos h0, if_pos h1]
theorem atI_ok {xs : List Int} {i : Int} (h0 : 0 ≤ i) (h1 : i < xs.length) : ∃ x, atI xs i = some x := by
  unfold atI
  rw [ixN_ok h0 h1]
  exact ⟨xs[i.toNat]'(by omega), List.getElem?_eq_getElem (by omega)⟩
theorem eCAt_ok {m : MS} {i k : Nat} {cs ls : List Int} {a r : Int} (h : cellAt m i = some (k, cs, ls, a, r)) : eCAt i m = .ok (.int a) m := by
  unfold eCAt
  rw [h]
theorem eCLen_ok {m : MS} {i k : Nat} {cs ls : List Int} {a r : Int} (h : cellAt m i = some (k, cs, ls, a, r)) : eCLen i m = .ok (.int cs.length) m := by
  unfold eCLen
  rw [h]
theorem eCCell_ok {m : MS} {i k : Nat} {cs ls : List Int} {a r t x : Int} {e : EM} (h : cellAt m i = some (k, cs, ls, a, r)) (he : e m = .ok (.int t) m) (hx : atI cs t = some x) : eCCell i e m = .ok (.int x) m := by
  unfold eCCell
  rw [h]
  simp only [he, R.bind, h, hx]
theorem eCLeft_ok {m : MS} {i k : Nat} {cs ls : List Int} {a r t x : Int} {e : EM} (h : cellAt m i = some (k, cs, ls, a, r)) (he : e m = .ok (.int t) m) (hx : atI ls t = some x) : eCLeft i e m = .ok (.int x) m := by
  unfold eCLeft
  rw [h]
  simp only [he, R.bind, h, hx]
theorem sCAt_ok {m : MS} {i k : Nat} {cs ls : List Int} {a r x : Int} {e : EM} (he : e m = .ok (.int x) m) (h : cellAt m i = some (k, cs, ls, a, r)) : sCAt i e m = .ok .next { m with cells := m.cells.set k (.draw cs ls x r) } := by
  unfold sCAt
  simp only [he, R.bind, h]
theorem sCLeft_ok {m : MS} {i k j : Nat} {cs ls : List Int} {a r x t : Int} {e b : EM} (he : e m = .ok (.int x) m) (hb : b m = .ok (.int t) m) (h : cellAt m i = some (k, cs, ls, a, r)) (hj : ixN ls.length t = some j) : sCLeft i b e m = .ok .next { m with cells := m.cells.set k (.draw cs (ls.set j x) a r) } := by
  unfold sCLeft
  simp only [he, R.bind, h, hb, hj]
theorem intsOf_map : ∀ ns : List Int, intsOf (ns.map PyData.int) = some ns
  | [] => rfl
  | n :: ns => by
    show (intsOf (ns.map PyData.int)).map (n :: ·) = _
    rw [intsOf_map ns]
    rfl
end DL
namespace DL
open PySem PySem.Spec PyProof.Rows L2
/-! ### constant tables of text keys, read at the head -/
def relW : W → Value → Bool
  | .none, .none => true
  | .bool b, .bool c => b == c
  | .int i, .int j _ => decide (i = j)
  | .str x, .str y _ => decide (x = y)
  | _, _ => false
def flatV : W → V
  | .bool b => .bl b
  | .int i => .int i
  | .str x => .str x
  | _ => .non
theorem relW_ok {w : W} {u : Value} (h : relW w u = true) : RelV (flatV w) u ∧ ∀ K ca H, Rp K ca H w (flatV w) := by
  cases w with
  | none => cases u with
    | none => exact ⟨rfl, fun _ _ _ => by simp only [Rp]; rfl⟩
    | _ => cases h
  | bool b => cases u with
    | bool c =>
      have e : b = c := eq_of_beq (show (b == c) = true from h)
      subst e
      exact ⟨rfl, fun _ _ _ => by simp only [Rp]; rfl⟩
    | _ => cases h
  | int i => cases u with
    | int j t =>
      have e : i = j := of_decide_eq_true h
      subst e
      exact ⟨⟨t, rfl⟩, fun _ _ _ => by simp only [Rp]; rfl⟩
    | _ => cases h
  | str x => cases u with
    | str y t =>
      have e : x = y := of_decide_eq_true h
      subst e
      exact ⟨⟨t, rfl⟩, fun _ _ _ => by simp only [Rp]; rfl⟩
    | _ => cases h
  | list _ => cases u <;> cases h
  | tuple _ => cases u <;> cases h
  | dict _ => cases u <;> cases h
def relTab : List DictEntry → List (Str × W) → Bool
  | [], [] => true
  | e :: es, q :: r => relW q.2 e.val && relTab es r
  | _, _ => false
def tabB (K : PySem.W.Frag) (a : Addr) (tab : List (Str × W)) : Bool := match K.lookup a with
  | some ⟨_, _, .dict es _, _⟩ => relTab es.toList tab
  | _ => false
theorem tab_find {P : Params} (z : Str) : ∀ {es : List DictEntry} {tab : List (Str × W)}, es.map He.keyOf = He.keysIn P (tab.map Prod.fst) → relTab es tab = true →
    (es.find? (fun e => e.key.isStr z) = none ∧ es.any (fun e => e.refKey) = false ∧ tab.lookup z = none) ∨ ∃ e v wv, es.find? (fun e => e.key.isStr z) = some e ∧ RelV v e.val ∧ tab.lookup z = some wv ∧ ∀ K ca H, Rp K ca H wv v
  | [], [], _, _ => .inl ⟨rfl, rfl, rfl⟩
  | [], _ :: _, _, h => by cases h
  | _ :: _, [], _, h => by cases h
  | e :: es, (k, w) :: r, h1, h2 => by
    obtain ⟨c1, c2⟩ := He.ba (show (relW w e.val && relTab es r) = true from h2)
    have h3 : He.keyOf e :: es.map He.keyOf = some (k, PyData.keyHash P k) :: He.keysIn P (r.map Prod.fst) := h1
    injection h3 with h4 h5
    have hk : ∃ t, e.key = .str k t := by
      unfold He.keyOf at h4
      split at h4
      · rename_i x t q
        have e1 := Option.some.inj h4
        obtain ⟨e2, e3⟩ := Prod.mk.inj e1
        exact ⟨t, by rw [q, e2]⟩
      · cases h4
    obtain ⟨t, hk⟩ := hk
    have hi : e.key.isStr z = decide (k = z) := by rw [hk]; rfl
    by_cases hz : k = z
    · subst hz
      obtain ⟨r1, r2⟩ := relW_ok c1
      refine .inr ⟨e, flatV w, w, ?_, r1, ?_, r2⟩
      · rw [List.find?_cons, hi]
        simp
      · simp [List.lookup]
    · rcases tab_find z h5 c2 with ⟨f1, f2, f3⟩ | ⟨e', v, wv, f1, f2, f3, f4⟩
      · refine .inl ⟨?_, ?_, ?_⟩
        · rw [List.find?_cons, hi, decide_eq_false hz]
          exact f1
        · rw [List.any_cons, f2]
          unfold DictEntry.refKey
          rw [hk]
          rfl
        · have : (z == k) = false := by simpa using fun h => hz h.symm
          simp only [List.lookup, this]
          exact f3
      · refine .inr ⟨e', v, wv, ?_, f2, ?_, f4⟩
        · rw [List.find?_cons, hi, decide_eq_false hz]
          exact f1
        · have : (z == k) = false := by simpa using fun h => hz h.symm
          simp only [List.lookup, this]
          exact f3
theorem ktab_of {K : PySem.W.Frag} {w : World} {a : Addr} {tab : List (Str × W)} (h : He.dicW K a = some (He.keysIn w.params (tab.map Prod.fst))) (h2 : tabB K a tab = true) : KTab K w a tab := by
  obtain ⟨es, n, hd⟩ := He.dicW_ok h
  refine ⟨hd.low, ⟨es, n, hd.at_, hd.lit⟩, fun z => ?_⟩
  have hm : es.toList.map He.keyOf = He.keysIn w.params (tab.map Prod.fst) := by
    unfold He.dicW at h
    rw [hd.at_] at h
    have h1 : (match decide ("dict" = "dict") && ((#[] : Array (Option Value)).isEmpty && !(a == sysModules)) with
      | true => some (es.toList.map He.keyOf)
      | false => none) = some (He.keysIn w.params (tab.map Prod.fst)) := h
    rw [hd.low] at h1
    exact Option.some.inj h1
  have hr : relTab es.toList tab = true := by
    unfold tabB at h2
    rw [hd.at_] at h2
    exact h2
  unfold PySem.W.nsIn
  rw [hd.at_]
  show ((match es.toList.find? (fun e => e.key.isStr z) with
    | some e => some (some e.val)
    | none => if es.toList.any (fun e => e.refKey) then none else some none) = some none ∧ _) ∨ _
  rcases tab_find z hm hr with ⟨f1, f2, f3⟩ | ⟨e, v, wv, f1, f2, f3, f4⟩
  · left
    rw [f1]
    refine ⟨?_, f3⟩
    show (if es.toList.any (fun e => e.refKey) then none else some none) = _
    rw [f2]
    rfl
  · right
    refine ⟨e.val, v, wv, ?_, f2, f3, f4 K⟩
    show (match es.toList.find? (fun e => e.key.isStr z) with
      | some e => some (some e.val)
      | none => if es.toList.any (fun e => e.refKey) then none else some none) = _
    rw [f1]
/-! ### the Hook: facts, defs, tables -/
abbrev Tb : Type := Str × List (Str × W)
def tabsOf (ts : List Tb) : List He.Tab := ts.map fun t => (fun K => He.ga K t.1, t.2.map Prod.fst)
abbrev AlW : Type := He.AlT × Bool
def obsW (fa : List He.Fa) (fn : List He.DefD) (ts : List Tb) (K : PySem.W.Frag) : AlW := (He.obsT fa fn (tabsOf ts) K, ts.all fun t => tabB K (He.ga K t.1) t.2)
def valW (fn : List He.DefD) (ts : List Tb) (w : World) : AlW := (He.valT fn (tabsOf ts) w, true)
def obsWG (n : Nat) (fa : List He.Fa) (fn : List He.DefD) (ts : List Tb) (g : Addr → Option Obj) : AlW := obsW fa fn ts (He.frG g (He.asD g n))
def SaysW (fa : List He.Fa) (fn : List He.DefD) (ts : List Tb) (w : World) (K : PySem.W.Frag) : Prop := obsW fa fn ts K = valW fn ts w
def hookW (n : Nat) (fa : List He.Fa) (fn : List He.DefD) (ts : List Tb) : PySem.W.Hook where
  α := AlW
  obs := fun s => obsWG n fa fn ts s.heap.get?
  val := fun w => valW fn ts w
  says := fun w h => ∃ K : PySem.W.Frag, K.In h ∧ SaysW fa fn ts w K
  of := fun _ _ e => ⟨_, He.frG_in, e⟩
  keeps := fun _ _ _ ⟨K, hK, c⟩ k => ⟨K, PySem.W.Frag.In.keeps hK k, c⟩
theorem obsWG_eq {n : Nat} {fa : List He.Fa} {fn : List He.DefD} {ts : List Tb} {g : Addr → Option Obj} {s : Shared} (h : ∀ a, g a = s.heap.get? a) : obsWG n fa fn ts g = (hookW n fa fn ts).obs s := by
  have e : g = s.heap.get? := funext h
  rw [e] <;> rfl
section
variable {fa : List He.Fa} {fn : List He.DefD} {ts : List Tb} {w : World} {K : PySem.W.Frag}
theorem SaysW.t (c : SaysW fa fn ts w K) : He.SaysT fa fn (tabsOf ts) w K := congrArg (fun z : AlW => z.1) c
theorem SaysW.d (c : SaysW fa fn ts w K) : He.SaysD fa fn K := c.t.d
theorem SaysW.tab (c : SaysW fa fn ts w K) (i : Nat) {T : Str} {tab : List (Str × W)} (h : ts[i]? = some (T, tab) := by rfl) : KTab K w (He.ga K T) tab := by
  have e : (tabsOf ts).map (fun t => He.dicW K (t.1 K)) = (tabsOf ts).map fun t => some (He.keysIn w.params t.2) := congrArg (fun z : He.AlT => z.2) c.t
  have e2 : ((tabsOf ts).map fun t => He.dicW K (t.1 K))[i]? = ((tabsOf ts).map fun t => some (He.keysIn w.params t.2))[i]? := by rw [e]
  unfold tabsOf at e2
  rw [List.getElem?_map, List.getElem?_map, List.getElem?_map, List.getElem?_map, h] at e2
  have e3 : (ts.all fun t => tabB K (He.ga K t.1) t.2) = true := congrArg (fun z : AlW => z.2) c
  exact ktab_of (Option.some.inj e2) (List.all_eq_true.mp e3 _ (List.mem_of_getElem? h))
end
/-! ### the law's end -/
theorem rel_zero {K : PySem.W.Frag} {H : Hp} : Rel (cb K H [] true) [] [] H ⟨[], []⟩ :=
  ⟨rfl, fun k c as e => by simp at e, List.nodup_nil, List.prefix_refl _, fun _ _ e _ => e, fun b hb => by simp at hb, rfl, fun i x e => by simp at e, fun i j v _ e => by simp [Sl.isOwn] at e, fun b hb => by simp [cb] at hb, fun i p e => by simp [Sl.isOwn] at e⟩
theorem walk_dl {l : PySem.W.OpenLaw} {n k : Nat} {q : Program} {loose : List Str} {XP : (Str → Option Value) → Heap → Prop} {YP : World → Heap → Prop} {d : DefRec} {x nm : Str} {F : FM}
    (hn : l.most = some n) (hn2 : n ≤ sizeLine) (hdf : d.params.defaults = []) (hr : Room k callerA) (hd : d.name = nm)
    (HF : ∀ ns : List Int, ns.length ≤ n → ∃ m, F [.list (ns.map .int)] [] = .ok (.bool true) m)
    (HK : ∀ (w : World) (mg : Str → Option Value) (h : Heap), YP w h → h.Ns mainGlobals mg → ∃ (K : PySem.W.Frag) (fd : FuncData), K.In h ∧ (∀ (s : Shared) (u : Value), BindsTo s fd ⟨[u], []⟩ [(x, u)]) ∧ mg nm = some (.ref (He.ga K nm)) ∧
      ∀ base : Heap, FnOk l.prog w K mg base (L2.CX l.prog w) k (He.ga K nm) fd [x] (callP K true F 1)) :
    PySem.W.WalkO q loose XP YP l.row.toRowW d [] (fun f vs => PySem.call f vs) := by
  refine Att.attach_call hn hdf fun w s₀ s₁ mg mb fa o pm cd doc a vs ns G Y ho hdd hcd hmg hobj hints hlen hg => ?_
  obtain ⟨K, fd, KX, hb, hm, hF⟩ := HK w mg _ Y G.T.g
  rw [hd] at hmg
  have e := hmg.symm.trans hm
  cases e
  refine law_call KX G.T.g G.T.b G.T.builtins G.T.nolimit hg hobj hints (Nat.le_trans hlen hn2) hr (fun base _ _ => hF base) hb (fun H hO hS => ?_) (fun H e s' hc => ?_)
  · have hz : FzL K H a (ns.map V.int) := by
      rcases hS with (hS | ⟨o, hS⟩) | ⟨o, its, m, h1, h2, h3, h4, h5, h6⟩
      · rcases hO a with h | ⟨o, xs, h⟩
        · rw [h] at hS; cases hS
        · rw [h] at hS; cases hS
      · exact .inl ⟨o, hS⟩
      · have hh := (KX _ _ h1).symm.trans hobj
        cases hh
        cases h4
        exact .inr ⟨_, _, h1, h5, h6⟩
    obtain ⟨m, hm⟩ := HF ns hlen
    refine ⟨rfl, [], [], [.list (ns.map .int)], rel_zero, ?_, ?_⟩
    · simp only [RpAll]
      exact ⟨_, _, rfl, rp_lst hz rp_ints, rfl⟩
    · rw [hm]
      intro v ca' H' _ _ hv
      simpa only [Rp] using hv
  · obtain ⟨_, _, _, _, _, _, _, _, _, _, _, _, h⟩ := hc
    exact h
end DL
namespace G
open PySem PySem.Spec PyProof.Rows L2 DL

abbrev top (i : Nat) : Stmt := PySem.Challenge.pw_answerrooms_k07_rooms_by_hand.main.body.getD i (.Pass ⟨0, 0, 0, 0⟩)
def fuel : MS → Nat := fun _ => 1000
def tab_SIZES : List (Str × W) := [("room", .int 3), ("endless", .int 2)]
def d__law_begin : He.DefD := ⟨("_law_begin", none), "_law_begin", "_law_begin", defArgs (top 63), defBody (top 63), defScope (top 63), [], []⟩
def d__law_mixed : He.DefD := ⟨("_law_mixed", none), "_law_mixed", "_law_mixed", defArgs (top 62), defBody (top 62), defScope (top 62), [], []⟩
def d__law_draw : He.DefD := ⟨("_law_draw", none), "_law_draw", "_law_draw", defArgs (top 64), defBody (top 64), defScope (top 64), [], []⟩
def d_fresh_of : He.DefD := ⟨("fresh_of", none), "fresh_of", "fresh_of", defArgs (top 18), defBody (top 18), defScope (top 18), [], []⟩
def d_bare_in : He.DefD := ⟨("bare_in", none), "bare_in", "bare_in", defArgs (top 36), defBody (top 36), defScope (top 36), [], []⟩
def d_divisor_of : He.DefD := ⟨("divisor_of", none), "divisor_of", "divisor_of", defArgs (top 31), defBody (top 31), defScope (top 31), [], []⟩
def d_lowered : He.DefD := ⟨("lowered", none), "lowered", "lowered", defArgs (top 33), defBody (top 33), defScope (top 33), [], []⟩
def d_line_behind : He.DefD := ⟨("line_behind", none), "line_behind", "line_behind", defArgs (top 26), defBody (top 26), defScope (top 26), [], []⟩
def d_exchanged : He.DefD := ⟨("exchanged", none), "exchanged", "exchanged", defArgs (top 25), defBody (top 25), defScope (top 25), [], []⟩
def d_first_rows : He.DefD := ⟨("first_rows", none), "first_rows", "first_rows", defArgs (top 24), defBody (top 24), defScope (top 24), [], []⟩
def d_row_of : He.DefD := ⟨("row_of", none), "row_of", "row_of", defArgs (top 28), defBody (top 28), defScope (top 28), [], []⟩
def d_spot_of : He.DefD := ⟨("spot_of", none), "spot_of", "spot_of", defArgs (top 27), defBody (top 27), defScope (top 27), [], []⟩
def d_solved_by : He.DefD := ⟨("solved_by", none), "solved_by", "solved_by", defArgs (top 30), defBody (top 30), defScope (top 30), [], []⟩
def d_solved : He.DefD := ⟨("solved", none), "solved", "solved", defArgs (top 29), defBody (top 29), defScope (top 29), [], []⟩
def d_best_in : He.DefD := ⟨("best_in", none), "best_in", "best_in", defArgs (top 42), defBody (top 42), defScope (top 42), [], []⟩
def d_is_integer : He.DefD := ⟨("is_integer", none), "is_integer", "is_integer", defArgs (top 10), defBody (top 10), defScope (top 10), [], []⟩
def d_is_between : He.DefD := ⟨("is_between", none), "is_between", "is_between", defArgs (top 11), defBody (top 11), defScope (top 11), [], []⟩
def d_is_rising : He.DefD := ⟨("is_rising", none), "is_rising", "is_rising", defArgs (top 12), defBody (top 12), defScope (top 12), [], []⟩
def d_is_lot : He.DefD := ⟨("is_lot", none), "is_lot", "is_lot", defArgs (top 13), defBody (top 13), defScope (top 13), [], []⟩
def d_are_tables : He.DefD := ⟨("are_tables", none), "are_tables", "are_tables", defArgs (top 15), defBody (top 15), defScope (top 15), [], []⟩
def d_is_part_of : He.DefD := ⟨("is_part_of", none), "is_part_of", "is_part_of", defArgs (top 14), defBody (top 14), defScope (top 14), [], []⟩
def d_is_fact : He.DefD := ⟨("is_fact", none), "is_fact", "is_fact", defArgs (top 16), defBody (top 16), defScope (top 16), [], []⟩
def d_need_query : He.DefD := ⟨("need_query", none), "need_query", "need_query", defArgs (top 17), defBody (top 17), defScope (top 17), [], []⟩
def d_leads_of : He.DefD := ⟨("leads_of", none), "leads_of", "leads_of", defArgs (top 19), defBody (top 19), defScope (top 19), [], []⟩
def d_ring_in : He.DefD := ⟨("ring_in", none), "ring_in", "ring_in", defArgs (top 20), defBody (top 20), defScope (top 20), [], []⟩
def d_need_even : He.DefD := ⟨("need_even", none), "need_even", "need_even", defArgs (top 22), defBody (top 22), defScope (top 22), [], []⟩
def d_best_product : He.DefD := ⟨("best_product", none), "best_product", "best_product", defArgs (top 43), defBody (top 43), defScope (top 43), [], []⟩
def d_least_in : He.DefD := ⟨("least_in", none), "least_in", "least_in", defArgs (top 49), defBody (top 49), defScope (top 49), [], []⟩
def d_best_weights : He.DefD := ⟨("best_weights", none), "best_weights", "best_weights", defArgs (top 50), defBody (top 50), defScope (top 50), [], []⟩
def d_lowest : He.DefD := ⟨("lowest", none), "lowest", "lowest", defArgs (top 32), defBody (top 32), defScope (top 32), [], []⟩
def d_heft_in : He.DefD := ⟨("heft_in", none), "heft_in", "heft_in", defArgs (top 48), defBody (top 48), defScope (top 48), [], []⟩
def d_are_counts : He.DefD := ⟨("are_counts", none), "are_counts", "are_counts", defArgs (top 37), defBody (top 37), defScope (top 37), [], []⟩
def d_is_product_of : He.DefD := ⟨("is_product_of", none), "is_product_of", "is_product_of", defArgs (top 38), defBody (top 38), defScope (top 38), [], []⟩
def d_need_product : He.DefD := ⟨("need_product", none), "need_product", "need_product", defArgs (top 39), defBody (top 39), defScope (top 39), [], []⟩
def d_are_weights_of : He.DefD := ⟨("are_weights_of", none), "are_weights_of", "are_weights_of", defArgs (top 46), defBody (top 46), defScope (top 46), [], []⟩
def d_need_weights : He.DefD := ⟨("need_weights", none), "need_weights", "need_weights", defArgs (top 47), defBody (top 47), defScope (top 47), [], []⟩
def d_value_in : He.DefD := ⟨("value_in", none), "value_in", "value_in", defArgs (top 40), defBody (top 40), defScope (top 40), [], []⟩
def d_judged_in : He.DefD := ⟨("judged_in", none), "judged_in", "judged_in", defArgs (top 59), defBody (top 59), defScope (top 59), [], []⟩
def d_check_room : He.DefD := ⟨("check_room", none), "check_room", "check_room", defArgs (top 60), defBody (top 60), defScope (top 60), [], []⟩
def d_product_value : He.DefD := ⟨("product_value", none), "product_value", "product_value", defArgs (top 41), defBody (top 41), defScope (top 41), [], []⟩
def d_room_in : He.DefD := ⟨("room_in", none), "room_in", "room_in", defArgs (top 57), defBody (top 57), defScope (top 57), [], []⟩
def d_room : He.DefD := ⟨("room", none), "room", "room", defArgs (top 58), defBody (top 58), defScope (top 58), [], []⟩
def d__law_ring_right : He.DefD := ⟨("_law_ring_right", none), "_law_ring_right", "_law_ring_right", defArgs (top 65), defBody (top 65), defScope (top 65), [], []⟩
def d_ring_of : He.DefD := ⟨("ring_of", none), "ring_of", "ring_of", defArgs (top 21), defBody (top 21), defScope (top 21), [], []⟩
def d__law_row_right : He.DefD := ⟨("_law_row_right", none), "_law_row_right", "_law_row_right", defArgs (top 66), defBody (top 66), defScope (top 66), [], []⟩
def d_law : He.DefD := ⟨("law", none), "law", "law", defArgs (top 67), defBody (top 67), defScope (top 67), [], []⟩
def fn : List He.DefD := [d__law_begin, d__law_mixed, d__law_draw, d_fresh_of, d_bare_in, d_divisor_of, d_lowered, d_line_behind, d_exchanged, d_first_rows, d_row_of, d_spot_of, d_solved_by, d_solved, d_best_in, d_is_integer, d_is_between, d_is_rising, d_is_lot, d_are_tables, d_is_part_of, d_is_fact, d_need_query, d_leads_of, d_ring_in, d_need_even, d_best_product, d_least_in, d_best_weights, d_lowest, d_heft_in, d_are_counts, d_is_product_of, d_need_product, d_are_weights_of, d_need_weights, d_value_in, d_judged_in, d_check_room, d_product_value, d_room_in, d_room, d__law_ring_right, d_ring_of, d__law_row_right, d_law]
def fa : List He.Fa := [.glo "_law_begin", .free "list", .glo "_law_mixed", .free "int", .glo "_law_draw", .free "len", .glo "fresh_of", .free "tuple", .glo "bare_in", .free "range", .free "any", .glo "divisor_of", .glo "lowered", .glo "line_behind", .free "zip", .glo "exchanged", .free "enumerate", .glo "first_rows", .glo "row_of", .glo "spot_of", .free "min", .glo "solved_by", .glo "solved", .glo "best_in", .glo "is_integer", .free "isinstance", .free "bool", .glo "is_between", .glo "is_rising", .free "all", .glo "is_lot", .glo "are_tables", .int "MOST_TABLES" (8), .glo "is_part_of", .glo "is_fact", .int "MOST_EXPONENT" (60), .glo "need_query", .int "MOST_COLUMNS" (7), .int "MOST_FACTS" (12), .glo "leads_of", .free "sorted", .glo "ring_in", .glo "need_even", .glo "best_product", .glo "least_in", .glo "best_weights", .glo "lowest", .glo "heft_in", .free "sum", .glo "are_counts", .glo "is_product_of", .glo "need_product", .glo "are_weights_of", .glo "need_weights", .glo "value_in", .glo "judged_in", .free "str", .glo "SIZES", .str "ENDLESS" "endless", .glo "check_room", .glo "product_value", .glo "room_in", .glo "room", .glo "_law_ring_right", .glo "ring_of", .glo "_law_row_right", .glo "law"]
def B__law_begin : SM :=
 (sSeq (sSet 1 (vOw (fIf (tVal (eBin gNe (eVar 0) (eFz (fLst aNil)))) (fOf gListA (aCons (eVar 0) aNil)) (fLst (aCons (eC (.int 0)) aNil)))))
 (sSeq (sBegin 1 (fHold 1 (fComp (iS (eVar 1)) (setFz 2) tYesM (eIf (tVal (eBin gGe (eVar 2) (eBin gPow (eC (.int 10)) (eC (.int 18))))) (eVar 2) (eC (.int 0))) [2])))
 sNext))
def F__law_begin : FM := runB 3 B__law_begin
abbrev N__law_begin : List Str := ["_law_script", "_law_cells", "_law_cell"]
theorem sc__law_begin : FnScope N__law_begin ["_law_script"] (defScope (top 63)) := ⟨rfl, rfl, rfl, by decide +kernel, rfl, by decide +kernel, by decide +kernel⟩
theorem ok__law_begin {P : Program} {w : World} {K : PySem.W.Frag} {mg : Str → Option Value} {base h : Heap} (KX : K.In h) (G : h.Ns mainGlobals mg) (c : He.SaysD fa fn K) (kt_SIZES : KTab K w (He.ga K "SIZES") tab_SIZES) : Has P w K mg base 1 "_law_begin" ["_law_script"] (callP K true F__law_begin 1) := by
  have g_list := He.free_ok KX G (c.fact 1 (f := .free "list") rfl)
  have nd := sc__law_begin.nd
  obtain ⟨fd, Fd⟩ := c.def_ 0 (d := d__law_begin) rfl
  refine ⟨fd, Fd.kp, FunD.bindsN Fd (fun _ _ _ _ _ _ us hl => match us, hl with | [_], _ => rfl), He.glo_ok KX G (c.fact 0 (f := .glo "_law_begin") rfl), fn_ok Fd sc__law_begin fun cdv A outer s H E hr Wx tk D hK hst => ?_⟩
  replace hst : D.st = true := hst rfl
  have hu := DL.hu_of hr
  have hp : PassesOwn (model P w) (A.deeper (envOfC "_law_begin" (defScope (top 63)) s.heap.objs.size (He.ga K "_law_begin") cdv)) (envOfC "_law_begin" (defScope (top 63)) s.heap.objs.size (He.ga K "_law_begin") cdv) (cxOf (L2.CX P w) P w K mg base N__law_begin "_law_begin" (defScope (top 63)) (He.ga K "_law_begin") cdv A outer s H E).xe := passes_of (X := cxOf (L2.CX P w) P w K mg base N__law_begin "_law_begin" (defScope (top 63)) (He.ga K "_law_begin") cdv A outer s H E) rfl
  exact (dss_cons (ds_set (i := 1) nd rfl (by first | exact .inl rfl | exact .inr rfl) (dv_ow (df_if (dt_cmp (dop_ne hK (hu64 hu)) (de_var (i := 0) rfl (by first | exact .inl rfl | exact .inr (.inl rfl) | exact .inr (.inr rfl))) (de_fz (df_lst da_nil)) (nomark _)) (df_callTy (dc_listA hK rfl) rfl g_list bt_list (da_cons (de_var (i := 0) rfl (by first | exact .inl rfl | exact .inr (.inl rfl) | exact .inr (.inr rfl))) da_nil)) (df_lst (da_cons de_int da_nil)))))
 (dss_cons (ds_begin (i := 1) hst rfl (by first | exact .inl rfl | exact .inr (.inl rfl) | exact .inr (.inr rfl)) (fun D hK hS => have hst : D.st = true := hS.trans hst; (df_hold (i := 1) (df_comp (own := [("_law_cell", 2)]) hK rfl nd (di_seq hK (de_var (i := 1) rfl (by first | exact .inl rfl | exact .inr (.inl rfl) | exact .inr (.inr rfl)))) (blkOk_by (by rfl)) (fun _ _ _ _ _ D hK hS => have hst : D.st = true := hS.trans hst; (dg_name (i := 2) nd rfl (by first | exact .inl rfl | exact .inr rfl))) (fun _ _ _ _ _ D hK hS => have hst : D.st = true := hS.trans hst; pts0) (fun _ _ _ _ _ D hK hS => have hst : D.st = true := hS.trans hst; (de_if (dt_cmp (dop_ge hK (hu64 hu)) (de_var (i := 2) rfl (by first | exact .inl rfl | exact .inr (.inl rfl) | exact .inr (.inr rfl))) (de_op dop_pow de_int de_int) (nomark _)) (de_var (i := 2) rfl (by first | exact .inl rfl | exact .inr (.inl rfl) | exact .inr (.inr rfl))) de_int)) q_yes (q_if (q_val (q_bin q_var (q_bin q_c q_c))) q_var q_c) (by decide)) (q_comp (q_il q_var)))) hK)
 dss_nil))
def B__law_mixed : SM :=
 (sSeq (sSet 0 (vFz (eBin gModI (eOf gInt (aCons (eVar 0) aNil)) (eC (.int 2147483647)))))
 (sSeq (sRet (eBin gModI (eBin gTimes (eBin gModI (eBin gPlus (eBin gPlus (eBin gTimes (eVar 0) (eBin gPlus (eC (.int 48271)) (eBin gTimes (eBin gTimes (eC (.int 2)) (eVar 1)) (eVar 1)))) (eBin gTimes (eC (.int 69621)) (eVar 1))) (eC (.int 11))) (eC (.int 2147483647))) (eC (.int 69621))) (eC (.int 2147483629))))
 sNext))
def F__law_mixed : FM := runB 2 B__law_mixed
abbrev N__law_mixed : List Str := ["_law_cell", "_law_k"]
theorem sc__law_mixed : FnScope N__law_mixed ["_law_cell", "_law_k"] (defScope (top 62)) := ⟨rfl, rfl, rfl, by decide +kernel, rfl, by decide +kernel, by decide +kernel⟩
theorem ok__law_mixed {P : Program} {w : World} {K : PySem.W.Frag} {mg : Str → Option Value} {base h : Heap} (KX : K.In h) (G : h.Ns mainGlobals mg) (c : He.SaysD fa fn K) (kt_SIZES : KTab K w (He.ga K "SIZES") tab_SIZES) : Has P w K mg base 1 "_law_mixed" ["_law_cell", "_law_k"] (callP K false F__law_mixed 2) := by
  have g_int := He.free_ok KX G (c.fact 3 (f := .free "int") rfl)
  have nd := sc__law_mixed.nd
  obtain ⟨fd, Fd⟩ := c.def_ 1 (d := d__law_mixed) rfl
  refine ⟨fd, Fd.kp, FunD.bindsN Fd (fun _ _ _ _ _ _ us hl => match us, hl with | [_, _], _ => rfl), He.glo_ok KX G (c.fact 2 (f := .glo "_law_mixed") rfl), fn_ok Fd sc__law_mixed fun cdv A outer s H E hr Wx tk D hK hst => ?_⟩
  have hu := DL.hu_of hr
  have hp : PassesOwn (model P w) (A.deeper (envOfC "_law_mixed" (defScope (top 62)) s.heap.objs.size (He.ga K "_law_mixed") cdv)) (envOfC "_law_mixed" (defScope (top 62)) s.heap.objs.size (He.ga K "_law_mixed") cdv) (cxOf (L2.CX P w) P w K mg base N__law_mixed "_law_mixed" (defScope (top 62)) (He.ga K "_law_mixed") cdv A outer s H E).xe := passes_of (X := cxOf (L2.CX P w) P w K mg base N__law_mixed "_law_mixed" (defScope (top 62)) (He.ga K "_law_mixed") cdv A outer s H E) rfl
  exact (dss_cons (ds_set (i := 0) nd rfl (by first | exact .inl rfl | exact .inr rfl) (dv_fz (de_op dop_mod (de_callTy dc_int rfl g_int bt_int (da_cons (de_var (i := 0) rfl (by first | exact .inl rfl | exact .inr (.inl rfl) | exact .inr (.inr rfl))) da_nil)) de_int)))
 (dss_cons (ds_ret (de_op dop_mod (de_op (dop_times hK) (de_op dop_mod (de_op (dop_plus hK (dop_add hK)) (de_op (dop_plus hK (dop_add hK)) (de_op (dop_times hK) (de_var (i := 0) rfl (by first | exact .inl rfl | exact .inr (.inl rfl) | exact .inr (.inr rfl))) (de_op (dop_plus hK (dop_add hK)) de_int (de_op (dop_times hK) (de_op (dop_times hK) de_int (de_var (i := 1) rfl (by first | exact .inl rfl | exact .inr (.inl rfl) | exact .inr (.inr rfl)))) (de_var (i := 1) rfl (by first | exact .inl rfl | exact .inr (.inl rfl) | exact .inr (.inr rfl)))))) (de_op (dop_times hK) de_int (de_var (i := 1) rfl (by first | exact .inl rfl | exact .inr (.inl rfl) | exact .inr (.inr rfl))))) de_int) de_int) de_int) de_int))
 dss_nil))
def B__law_draw : SM :=
 (sSeq (sSet 2 (vFz (eCAt 0)))
 (sSeq (sCAt 0 (eBin gPlus (eVar 2) (eC (.int 1))))
 (sSeq (sSet 3 (vFz (eBin gModI (eOf gInt (aCons (eVar 2) aNil)) (eCLen 0))))
 (sSeq (sSet 4 (vFz (eCLeft 0 (eVar 3))))
 (sSeq (sIf (tVal (eBin gGt (eVar 4) (eC (.int 0))))
 (sSeq (sCLeft 0 (eVar 3) (eBin gDivI (eVar 4) (eVar 1)))
 (sSeq (sRet (eBin gModI (eOf gInt (aCons (eVar 4) aNil)) (eVar 1)))
 sNext))
 sNext)
 (sSeq (sSet 5 (vFz (eCall false F__law_mixed [] (aCons (eCall false F__law_mixed [] (aCons (eCCell 0 (eVar 3)) (aCons (eVar 2) aNil))) (aCons (eBin gPlus (eC (.int 40)) (eVar 2)) aNil)))))
 (sSeq (sRet (eBin gModI (eBin gDivI (eOf gInt (aCons (eBin gPlus (eBin gTimes (eVar 5) (eC (.int 2147483647))) (eCall false F__law_mixed [] (aCons (eVar 5) (aCons (eBin gPlus (eC (.int 7)) (eVar 2)) aNil)))) aNil)) (eC (.int 64))) (eVar 1)))
 sNext)))))))
def F__law_draw : FM := runB 6 B__law_draw
abbrev N__law_draw : List Str := ["_law_state", "_law_many", "_law_at", "_law_place", "_law_left", "_law_number"]
theorem sc__law_draw : FnScope N__law_draw ["_law_state", "_law_many"] (defScope (top 64)) := ⟨rfl, rfl, rfl, by decide +kernel, rfl, by decide +kernel, by decide +kernel⟩
theorem ok__law_draw {P : Program} {w : World} {K : PySem.W.Frag} {mg : Str → Option Value} {base h : Heap} (KX : K.In h) (G : h.Ns mainGlobals mg) (c : He.SaysD fa fn K) (kt_SIZES : KTab K w (He.ga K "SIZES") tab_SIZES) : Has P w K mg base 2 "_law_draw" ["_law_state", "_law_many"] (callP K true F__law_draw 2) := by
  have h__law_mixed : Has P w K mg base _ _ _ _ := ok__law_mixed KX G c kt_SIZES
  have g_int := He.free_ok KX G (c.fact 3 (f := .free "int") rfl)
  have g_len := He.free_ok KX G (c.fact 5 (f := .free "len") rfl)
  have nd := sc__law_draw.nd
  obtain ⟨fd, Fd⟩ := c.def_ 2 (d := d__law_draw) rfl
  refine ⟨fd, Fd.kp, FunD.bindsN Fd (fun _ _ _ _ _ _ us hl => match us, hl with | [_, _], _ => rfl), He.glo_ok KX G (c.fact 4 (f := .glo "_law_draw") rfl), fn_ok Fd sc__law_draw fun cdv A outer s H E hr Wx tk D hK hst => ?_⟩
  replace hst : D.st = true := hst rfl
  have hu := DL.hu_of hr
  have hp : PassesOwn (model P w) (A.deeper (envOfC "_law_draw" (defScope (top 64)) s.heap.objs.size (He.ga K "_law_draw") cdv)) (envOfC "_law_draw" (defScope (top 64)) s.heap.objs.size (He.ga K "_law_draw") cdv) (cxOf (L2.CX P w) P w K mg base N__law_draw "_law_draw" (defScope (top 64)) (He.ga K "_law_draw") cdv A outer s H E).xe := passes_of (X := cxOf (L2.CX P w) P w K mg base N__law_draw "_law_draw" (defScope (top 64)) (He.ga K "_law_draw") cdv A outer s H E) rfl
  exact (dss_cons (ds_set (i := 2) nd rfl (by first | exact .inl rfl | exact .inr rfl) (dv_fz (de_cAt (i := 0) (hu1 hu) hst rfl (by first | exact .inl rfl | exact .inr (.inl rfl) | exact .inr (.inr rfl)) (fun _ _ => rfl))))
 (dss_cons (ds_cAt (i := 0) (hu1 hu) hst rfl (by first | exact .inl rfl | exact .inr (.inl rfl) | exact .inr (.inr rfl)) (de_op (dop_plus hK (dop_add hK)) (de_var (i := 2) rfl (by first | exact .inl rfl | exact .inr (.inl rfl) | exact .inr (.inr rfl))) de_int) rfl)
 (dss_cons (ds_set (i := 3) nd rfl (by first | exact .inl rfl | exact .inr rfl) (dv_fz (de_op dop_mod (de_callTy dc_int rfl g_int bt_int (da_cons (de_var (i := 2) rfl (by first | exact .inl rfl | exact .inr (.inl rfl) | exact .inr (.inr rfl))) da_nil)) (de_cLen (i := 0) hK (hu1 hu) hst rfl (by first | exact .inl rfl | exact .inr (.inl rfl) | exact .inr (.inr rfl)) (fun _ _ => rfl) rfl g_len))))
 (dss_cons (ds_set (i := 4) nd rfl (by first | exact .inl rfl | exact .inr rfl) (dv_fz (de_cLeft (i := 0) (hu1 hu) hst rfl (by first | exact .inl rfl | exact .inr (.inl rfl) | exact .inr (.inr rfl)) (fun _ _ => rfl) (de_var (i := 3) rfl (by first | exact .inl rfl | exact .inr (.inl rfl) | exact .inr (.inr rfl))) (fun _ _ => rfl))))
 (dss_cons (ds_if (dt_cmp (dop_gt hK (hu64 hu)) (de_var (i := 4) rfl (by first | exact .inl rfl | exact .inr (.inl rfl) | exact .inr (.inr rfl))) de_int (nomark _))
 (dss_cons (ds_cLeft (i := 0) (hu1 hu) hst rfl (by first | exact .inl rfl | exact .inr (.inl rfl) | exact .inr (.inr rfl)) (fun _ _ => rfl) (de_op dop_div (de_var (i := 4) rfl (by first | exact .inl rfl | exact .inr (.inl rfl) | exact .inr (.inr rfl))) (de_var (i := 1) rfl (by first | exact .inl rfl | exact .inr (.inl rfl) | exact .inr (.inr rfl)))) (de_var (i := 3) rfl (by first | exact .inl rfl | exact .inr (.inl rfl) | exact .inr (.inr rfl))))
 (dss_cons (ds_ret (de_op dop_mod (de_callTy dc_int rfl g_int bt_int (da_cons (de_var (i := 4) rfl (by first | exact .inl rfl | exact .inr (.inl rfl) | exact .inr (.inr rfl))) da_nil)) (de_var (i := 1) rfl (by first | exact .inl rfl | exact .inr (.inl rfl) | exact .inr (.inr rfl)))))
 dss_nil))
 dss_nil)
 (dss_cons (ds_set (i := 5) nd rfl (by first | exact .inl rfl | exact .inr rfl) (dv_fz (de_fn h__law_mixed (Room.mono hr (by decide)) rfl tk (da_cons (de_fn h__law_mixed (Room.mono hr (by decide)) rfl tk (da_cons (de_cCell (i := 0) (hu1 hu) hst rfl (by first | exact .inl rfl | exact .inr (.inl rfl) | exact .inr (.inr rfl)) (fun _ _ => rfl) (de_var (i := 3) rfl (by first | exact .inl rfl | exact .inr (.inl rfl) | exact .inr (.inr rfl))) (fun _ _ => rfl)) (da_cons (de_var (i := 2) rfl (by first | exact .inl rfl | exact .inr (.inl rfl) | exact .inr (.inr rfl))) da_nil)) hK (fun h => Bool.noConfusion h) (lq_cons (lq_cons lq_nil))) (da_cons (de_op (dop_plus hK (dop_add hK)) de_int (de_var (i := 2) rfl (by first | exact .inl rfl | exact .inr (.inl rfl) | exact .inr (.inr rfl)))) da_nil)) hK (fun h => Bool.noConfusion h) (lq_cons (lq_cons lq_nil)))))
 (dss_cons (ds_ret (de_op dop_mod (de_op dop_div (de_callTy dc_int rfl g_int bt_int (da_cons (de_op (dop_plus hK (dop_add hK)) (de_op (dop_times hK) (de_var (i := 5) rfl (by first | exact .inl rfl | exact .inr (.inl rfl) | exact .inr (.inr rfl))) de_int) (de_fn h__law_mixed (Room.mono hr (by decide)) rfl tk (da_cons (de_var (i := 5) rfl (by first | exact .inl rfl | exact .inr (.inl rfl) | exact .inr (.inr rfl))) (da_cons (de_op (dop_plus hK (dop_add hK)) de_int (de_var (i := 2) rfl (by first | exact .inl rfl | exact .inr (.inl rfl) | exact .inr (.inr rfl)))) da_nil)) hK (fun h => Bool.noConfusion h) (lq_cons (lq_cons lq_nil)))) da_nil)) de_int) (de_var (i := 1) rfl (by first | exact .inl rfl | exact .inr (.inl rfl) | exact .inr (.inr rfl)))))
 dss_nil)))))))
def B_fresh_of : SM :=
 (sSeq (sRet (eOf gTuple (aCons (eFz (fComp (iS (eBin ixW (eVar 0) (eC (.int 2)))) (setFz 1) (tVal (eBin gNotInA (eVar 1) (eBin ixW (eVar 0) (eC (.int 1))))) (eVar 1) [1])) aNil)))
 sNext)
def F_fresh_of : FM := runB 2 B_fresh_of
abbrev N_fresh_of : List Str := ["fact", "column"]
theorem sc_fresh_of : FnScope N_fresh_of ["fact"] (defScope (top 18)) := ⟨rfl, rfl, rfl, by decide +kernel, rfl, by decide +kernel, by decide +kernel⟩
theorem ok_fresh_of {P : Program} {w : World} {K : PySem.W.Frag} {mg : Str → Option Value} {base h : Heap} (KX : K.In h) (G : h.Ns mainGlobals mg) (c : He.SaysD fa fn K) (kt_SIZES : KTab K w (He.ga K "SIZES") tab_SIZES) : Has P w K mg base 1 "fresh_of" ["fact"] (callP K false F_fresh_of 1) := by
  have g_tuple := He.free_ok KX G (c.fact 7 (f := .free "tuple") rfl)
  have nd := sc_fresh_of.nd
  obtain ⟨fd, Fd⟩ := c.def_ 3 (d := d_fresh_of) rfl
  refine ⟨fd, Fd.kp, FunD.bindsN Fd (fun _ _ _ _ _ _ us hl => match us, hl with | [_], _ => rfl), He.glo_ok KX G (c.fact 6 (f := .glo "fresh_of") rfl), fn_ok Fd sc_fresh_of fun cdv A outer s H E hr Wx tk D hK hst => ?_⟩
  have hu := DL.hu_of hr
  have hp : PassesOwn (model P w) (A.deeper (envOfC "fresh_of" (defScope (top 18)) s.heap.objs.size (He.ga K "fresh_of") cdv)) (envOfC "fresh_of" (defScope (top 18)) s.heap.objs.size (He.ga K "fresh_of") cdv) (cxOf (L2.CX P w) P w K mg base N_fresh_of "fresh_of" (defScope (top 18)) (He.ga K "fresh_of") cdv A outer s H E).xe := passes_of (X := cxOf (L2.CX P w) P w K mg base N_fresh_of "fresh_of" (defScope (top 18)) (He.ga K "fresh_of") cdv A outer s H E) rfl
  exact (dss_cons (ds_ret (de_callTy (dc_tuple hK) rfl g_tuple bt_tuple (da_cons (de_fz (df_comp (own := [("column", 1)]) hK rfl nd (di_seq hK (de_ixD hK (hu1 hu) (de_var (i := 0) rfl (by first | exact .inl rfl | exact .inr (.inl rfl) | exact .inr (.inr rfl))) de_int (fun _ _ => rfl))) (blkOk_by (by rfl)) (fun _ _ _ _ _ D hK hS => (dg_name (i := 1) nd rfl (by first | exact .inl rfl | exact .inr rfl))) (fun _ _ _ _ _ D hK hS => (pts1 (dt_cmp (dop_notinA hK hu) (de_var (i := 1) rfl (by first | exact .inl rfl | exact .inr (.inl rfl) | exact .inr (.inr rfl))) (de_ixD hK (hu1 hu) (de_var (i := 0) rfl (by first | exact .inl rfl | exact .inr (.inl rfl) | exact .inr (.inr rfl))) de_int (fun _ _ => rfl)) (by with_unfolding_all rfl)))) (fun _ _ _ _ _ D hK hS => (de_var (i := 1) rfl (by first | exact .inl rfl | exact .inr (.inl rfl) | exact .inr (.inr rfl)))) (q_val (q_bin q_var (q_bin q_var q_c))) q_var (by decide))) da_nil)))
 dss_nil)
def B_bare_in : SM :=
 (sSeq (sRet (eFz (fComp (iR1 (aCons (eBin ixW (eVar 0) (eC (.int 0))) aNil)) (setFz 1) (tNot (tVal (eOf gAny (aCons (eFz (fComp (iS (eBin ixW (eVar 0) (eC (.int 2)))) (setFz 2) tYesM (eBin gInA (eVar 1) (eCall false F_fresh_of [] (aCons (eVar 2) aNil))) [2])) aNil)))) (eVar 1) [1])))
 sNext)
def F_bare_in : FM := runB 3 B_bare_in
abbrev N_bare_in : List Str := ["query", "column", "fact"]
theorem sc_bare_in : FnScope N_bare_in ["query"] (defScope (top 36)) := ⟨rfl, rfl, rfl, by decide +kernel, rfl, by decide +kernel, by decide +kernel⟩
theorem ok_bare_in {P : Program} {w : World} {K : PySem.W.Frag} {mg : Str → Option Value} {base h : Heap} (KX : K.In h) (G : h.Ns mainGlobals mg) (c : He.SaysD fa fn K) (kt_SIZES : KTab K w (He.ga K "SIZES") tab_SIZES) : Has P w K mg base 2 "bare_in" ["query"] (callP K false F_bare_in 1) := by
  have h_fresh_of : Has P w K mg base _ _ _ _ := ok_fresh_of KX G c kt_SIZES
  have g_any := He.free_ok KX G (c.fact 10 (f := .free "any") rfl)
  have g_range := He.free_ok KX G (c.fact 9 (f := .free "range") rfl)
  have nd := sc_bare_in.nd
  obtain ⟨fd, Fd⟩ := c.def_ 4 (d := d_bare_in) rfl
  refine ⟨fd, Fd.kp, FunD.bindsN Fd (fun _ _ _ _ _ _ us hl => match us, hl with | [_], _ => rfl), He.glo_ok KX G (c.fact 8 (f := .glo "bare_in") rfl), fn_ok Fd sc_bare_in fun cdv A outer s H E hr Wx tk D hK hst => ?_⟩
  have hu := DL.hu_of hr
  have hp : PassesOwn (model P w) (A.deeper (envOfC "bare_in" (defScope (top 36)) s.heap.objs.size (He.ga K "bare_in") cdv)) (envOfC "bare_in" (defScope (top 36)) s.heap.objs.size (He.ga K "bare_in") cdv) (cxOf (L2.CX P w) P w K mg base N_bare_in "bare_in" (defScope (top 36)) (He.ga K "bare_in") cdv A outer s H E).xe := passes_of (X := cxOf (L2.CX P w) P w K mg base N_bare_in "bare_in" (defScope (top 36)) (He.ga K "bare_in") cdv A outer s H E) rfl
  exact (dss_cons (ds_ret (de_fz (df_comp (own := [("column", 1)]) hK rfl nd (di_range1 rfl g_range (da_cons (de_ixD hK (hu1 hu) (de_var (i := 0) rfl (by first | exact .inl rfl | exact .inr (.inl rfl) | exact .inr (.inr rfl))) de_int (fun _ _ => rfl)) da_nil)) (blkOk_by (by rfl)) (fun _ _ _ _ _ D hK hS => (dg_name (i := 1) nd rfl (by first | exact .inl rfl | exact .inr rfl))) (fun _ _ _ _ _ D hK hS => (pts1 (dt_not (dt_val (de_callB (dc_any hK rfl) rfl g_any bt_any (da_cons (de_fz (df_comp (own := [("fact", 2)]) hK rfl nd (di_seq hK (de_ixD hK (hu1 hu) (de_var (i := 0) rfl (by first | exact .inl rfl | exact .inr (.inl rfl) | exact .inr (.inr rfl))) de_int (fun _ _ => rfl))) (blkOk_by (by rfl)) (fun _ _ _ _ _ D hK hS => (dg_name (i := 2) nd rfl (by first | exact .inl rfl | exact .inr rfl))) (fun _ _ _ _ _ D hK hS => pts0) (fun _ _ _ _ _ D hK hS => (de_cmp (dop_inA hK hu) (de_var (i := 1) rfl (by first | exact .inl rfl | exact .inr (.inl rfl) | exact .inr (.inr rfl))) (de_fn h_fresh_of (Room.mono hr (by decide)) rfl takes0 (da_cons (de_var (i := 2) rfl (by first | exact .inl rfl | exact .inr (.inl rfl) | exact .inr (.inr rfl))) da_nil) hK (fun h => Bool.noConfusion h) (lq_cons lq_nil)) (by with_unfolding_all rfl))) q_yes (q_bin q_var (q_call (q_cons q_var q_nil))) (by decide))) da_nil)))))) (fun _ _ _ _ _ D hK hS => (de_var (i := 1) rfl (by first | exact .inl rfl | exact .inr (.inl rfl) | exact .inr (.inr rfl)))) (q_tnot (q_val (q_of (q_cons (q_fz (q_comp (q_il (q_bin q_var q_c)))) q_nil)))) q_var (by decide))))
 dss_nil)
def B_divisor_of : SM :=
 (sSeq (sSet 1 (vFz (eC (.int 0))))
 (sSeq (sFor (iS (eVar 0)) (setFz 2)
 (sSeq (sPar [3, 4] [(vFz (eVar 1)), (vFz (eVar 2))])
 (sSeq (sWhile fuel (tVal (eBin gGt (eVar 4) (eC (.int 0))))
 (sSeq (sPar [3, 4] [(vFz (eVar 4)), (vFz (eBin gModI (eOf gInt (aCons (eVar 3) aNil)) (eVar 4)))])
 sNext))
 (sSeq (sSet 1 (vFz (eVar 3)))
 sNext))))
 (sSeq (sRet (eVar 1))
 sNext)))
def F_divisor_of : FM := runB 5 B_divisor_of
abbrev N_divisor_of : List Str := ["numbers", "found", "number", "one", "other"]
theorem sc_divisor_of : FnScope N_divisor_of ["numbers"] (defScope (top 31)) := ⟨rfl, rfl, rfl, by decide +kernel, rfl, by decide +kernel, by decide +kernel⟩
theorem ok_divisor_of {P : Program} {w : World} {K : PySem.W.Frag} {mg : Str → Option Value} {base h : Heap} (KX : K.In h) (G : h.Ns mainGlobals mg) (c : He.SaysD fa fn K) (kt_SIZES : KTab K w (He.ga K "SIZES") tab_SIZES) : Has P w K mg base 1 "divisor_of" ["numbers"] (callP K false F_divisor_of 1) := by
  have g_int := He.free_ok KX G (c.fact 3 (f := .free "int") rfl)
  have nd := sc_divisor_of.nd
  obtain ⟨fd, Fd⟩ := c.def_ 5 (d := d_divisor_of) rfl
  refine ⟨fd, Fd.kp, FunD.bindsN Fd (fun _ _ _ _ _ _ us hl => match us, hl with | [_], _ => rfl), He.glo_ok KX G (c.fact 11 (f := .glo "divisor_of") rfl), fn_ok Fd sc_divisor_of fun cdv A outer s H E hr Wx tk D hK hst => ?_⟩
  have hu := DL.hu_of hr
  have hp : PassesOwn (model P w) (A.deeper (envOfC "divisor_of" (defScope (top 31)) s.heap.objs.size (He.ga K "divisor_of") cdv)) (envOfC "divisor_of" (defScope (top 31)) s.heap.objs.size (He.ga K "divisor_of") cdv) (cxOf (L2.CX P w) P w K mg base N_divisor_of "divisor_of" (defScope (top 31)) (He.ga K "divisor_of") cdv A outer s H E).xe := passes_of (X := cxOf (L2.CX P w) P w K mg base N_divisor_of "divisor_of" (defScope (top 31)) (He.ga K "divisor_of") cdv A outer s H E) rfl
  exact (dss_cons (ds_set (i := 1) nd rfl (by first | exact .inl rfl | exact .inr rfl) (dv_fz de_int))
 (dss_cons (ds_for hp rfl (di_seq hK (de_var (i := 0) rfl (by first | exact .inl rfl | exact .inr (.inl rfl) | exact .inr (.inr rfl)))) (dg_name (i := 2) nd rfl (by first | exact .inl rfl | exact .inr rfl))
 (dss_cons (ds_par2 (i := 3) (j := 4) hK rfl nd rfl rfl (by decide) rfl rfl (fun D hK hS => (dv_fz (de_var (i := 1) rfl (by first | exact .inl rfl | exact .inr (.inl rfl) | exact .inr (.inr rfl))))) (fun D hK hS => (dv_fz (de_var (i := 2) rfl (by first | exact .inl rfl | exact .inr (.inl rfl) | exact .inr (.inr rfl))))) (by rfl))
 (dss_cons (ds_while hp (dt_cmp (dop_gt hK (hu64 hu)) (de_var (i := 4) rfl (by first | exact .inl rfl | exact .inr (.inl rfl) | exact .inr (.inr rfl))) de_int (nomark _))
 (dss_cons (ds_par2 (i := 3) (j := 4) hK rfl nd rfl rfl (by decide) rfl rfl (fun D hK hS => (dv_fz (de_var (i := 4) rfl (by first | exact .inl rfl | exact .inr (.inl rfl) | exact .inr (.inr rfl))))) (fun D hK hS => (dv_fz (de_op dop_mod (de_callTy dc_int rfl g_int bt_int (da_cons (de_var (i := 3) rfl (by first | exact .inl rfl | exact .inr (.inl rfl) | exact .inr (.inr rfl))) da_nil)) (de_var (i := 4) rfl (by first | exact .inl rfl | exact .inr (.inl rfl) | exact .inr (.inr rfl)))))) (by rfl))
 dss_nil))
 (dss_cons (ds_set (i := 1) nd rfl (by first | exact .inl rfl | exact .inr rfl) (dv_fz (de_var (i := 3) rfl (by first | exact .inl rfl | exact .inr (.inl rfl) | exact .inr (.inr rfl)))))
 dss_nil))))
 (dss_cons (ds_ret (de_var (i := 1) rfl (by first | exact .inl rfl | exact .inr (.inl rfl) | exact .inr (.inr rfl))))
 dss_nil)))
def B_lowered : SM :=
 (sSeq (sSet 2 (vFz (eCall false F_divisor_of [] (aCons (eFz (fLst (aCons (eVar 0) (aStar (eVar 1) aNil)))) aNil))))
 (sSeq (sRet (eTup (aCons (eBin gDivI (eVar 0) (eVar 2)) (aCons (eOf gTuple (aCons (eFz (fComp (iS (eVar 1)) (setFz 3) tYesM (eBin gDivI (eVar 3) (eVar 2)) [3])) aNil)) aNil))))
 sNext))
def F_lowered : FM := runB 4 B_lowered
abbrev N_lowered : List Str := ["bottom", "numbers", "divisor", "number"]
theorem sc_lowered : FnScope N_lowered ["bottom", "numbers"] (defScope (top 33)) := ⟨rfl, rfl, rfl, by decide +kernel, rfl, by decide +kernel, by decide +kernel⟩
theorem ok_lowered {P : Program} {w : World} {K : PySem.W.Frag} {mg : Str → Option Value} {base h : Heap} (KX : K.In h) (G : h.Ns mainGlobals mg) (c : He.SaysD fa fn K) (kt_SIZES : KTab K w (He.ga K "SIZES") tab_SIZES) : Has P w K mg base 2 "lowered" ["bottom", "numbers"] (callP K false F_lowered 2) := by
  have h_divisor_of : Has P w K mg base _ _ _ _ := ok_divisor_of KX G c kt_SIZES
  have g_tuple := He.free_ok KX G (c.fact 7 (f := .free "tuple") rfl)
  have nd := sc_lowered.nd
  obtain ⟨fd, Fd⟩ := c.def_ 6 (d := d_lowered) rfl
  refine ⟨fd, Fd.kp, FunD.bindsN Fd (fun _ _ _ _ _ _ us hl => match us, hl with | [_, _], _ => rfl), He.glo_ok KX G (c.fact 12 (f := .glo "lowered") rfl), fn_ok Fd sc_lowered fun cdv A outer s H E hr Wx tk D hK hst => ?_⟩
  have hu := DL.hu_of hr
  have hp : PassesOwn (model P w) (A.deeper (envOfC "lowered" (defScope (top 33)) s.heap.objs.size (He.ga K "lowered") cdv)) (envOfC "lowered" (defScope (top 33)) s.heap.objs.size (He.ga K "lowered") cdv) (cxOf (L2.CX P w) P w K mg base N_lowered "lowered" (defScope (top 33)) (He.ga K "lowered") cdv A outer s H E).xe := passes_of (X := cxOf (L2.CX P w) P w K mg base N_lowered "lowered" (defScope (top 33)) (He.ga K "lowered") cdv A outer s H E) rfl
  exact (dss_cons (ds_set (i := 2) nd rfl (by first | exact .inl rfl | exact .inr rfl) (dv_fz (de_fn h_divisor_of (Room.mono hr (by decide)) rfl tk (da_cons (de_fz (df_lst (da_cons (de_var (i := 0) rfl (by first | exact .inl rfl | exact .inr (.inl rfl) | exact .inr (.inr rfl))) (da_star hK (de_var (i := 1) rfl (by first | exact .inl rfl | exact .inr (.inl rfl) | exact .inr (.inr rfl))) da_nil)))) da_nil) hK (fun h => Bool.noConfusion h) (lq_cons lq_nil))))
 (dss_cons (ds_ret (de_tup (da_cons (de_op dop_div (de_var (i := 0) rfl (by first | exact .inl rfl | exact .inr (.inl rfl) | exact .inr (.inr rfl))) (de_var (i := 2) rfl (by first | exact .inl rfl | exact .inr (.inl rfl) | exact .inr (.inr rfl)))) (da_cons (de_callTy (dc_tuple hK) rfl g_tuple bt_tuple (da_cons (de_fz (df_comp (own := [("number", 3)]) hK rfl nd (di_seq hK (de_var (i := 1) rfl (by first | exact .inl rfl | exact .inr (.inl rfl) | exact .inr (.inr rfl)))) (blkOk_by (by rfl)) (fun _ _ _ _ _ D hK hS => (dg_name (i := 3) nd rfl (by first | exact .inl rfl | exact .inr rfl))) (fun _ _ _ _ _ D hK hS => pts0) (fun _ _ _ _ _ D hK hS => (de_op dop_div (de_var (i := 3) rfl (by first | exact .inl rfl | exact .inr (.inl rfl) | exact .inr (.inr rfl))) (de_var (i := 2) rfl (by first | exact .inl rfl | exact .inr (.inl rfl) | exact .inr (.inr rfl))))) q_yes (q_bin q_var q_var) (by decide))) da_nil)) da_nil))))
 dss_nil))
def B_line_behind : SM :=
 (sSeq (sPar [4, 5] [(vFz (eBin ixW (eVar 0) (eVar 2))), (vFz (eBin ixW (eVar 1) (eVar 2)))])
 (sSeq (sSet 6 (vOw (fComp (iZp (eVar 0) (eVar 1)) (gTupW (gsCons (setFz 7) (gsCons (setFz 8) gsNil))) tYesM (eBin gDivI (eBin gSubI (eBin gTimes (eVar 7) (eVar 5)) (eBin gTimes (eVar 4) (eVar 8))) (eVar 3)) [7, 8])))
 (sSeq (sFrz 6) (sSeq (sRet (eBin gPlus (eBin gPlus (eCut (eVar 6) oNone (oSome (eVar 2))) (eFz (fLst (aCons (eBin gSubI (eC (.int 0)) (eVar 4)) aNil)))) (eCut (eVar 6) (oSome (eBin gPlus (eVar 2) (eC (.int 1)))) oNone)))
 sNext))))
def F_line_behind : FM := runB 9 B_line_behind
abbrev N_line_behind : List Str := ["line", "other", "spot", "bottom", "own", "pivot", "found", "value", "far"]
theorem sc_line_behind : FnScope N_line_behind ["line", "other", "spot", "bottom"] (defScope (top 26)) := ⟨rfl, rfl, rfl, by decide +kernel, rfl, by decide +kernel, by decide +kernel⟩
theorem ok_line_behind {P : Program} {w : World} {K : PySem.W.Frag} {mg : Str → Option Value} {base h : Heap} (KX : K.In h) (G : h.Ns mainGlobals mg) (c : He.SaysD fa fn K) (kt_SIZES : KTab K w (He.ga K "SIZES") tab_SIZES) : Has P w K mg base 1 "line_behind" ["line", "other", "spot", "bottom"] (callP K false F_line_behind 4) := by
  have g_zip := He.free_ok KX G (c.fact 14 (f := .free "zip") rfl)
  have nd := sc_line_behind.nd
  obtain ⟨fd, Fd⟩ := c.def_ 7 (d := d_line_behind) rfl
  refine ⟨fd, Fd.kp, FunD.bindsN Fd (fun _ _ _ _ _ _ us hl => match us, hl with | [_, _, _, _], _ => rfl), He.glo_ok KX G (c.fact 13 (f := .glo "line_behind") rfl), fn_ok Fd sc_line_behind fun cdv A outer s H E hr Wx tk D hK hst => ?_⟩
  have hu := DL.hu_of hr
  have hp : PassesOwn (model P w) (A.deeper (envOfC "line_behind" (defScope (top 26)) s.heap.objs.size (He.ga K "line_behind") cdv)) (envOfC "line_behind" (defScope (top 26)) s.heap.objs.size (He.ga K "line_behind") cdv) (cxOf (L2.CX P w) P w K mg base N_line_behind "line_behind" (defScope (top 26)) (He.ga K "line_behind") cdv A outer s H E).xe := passes_of (X := cxOf (L2.CX P w) P w K mg base N_line_behind "line_behind" (defScope (top 26)) (He.ga K "line_behind") cdv A outer s H E) rfl
  exact (dss_cons (ds_parT2 (i := 4) (j := 5) hK rfl nd rfl rfl (by first | exact .inl rfl | exact .inr rfl) (by first | exact .inl rfl | exact .inr rfl) (fun D hK hS => (dv_fz (de_ixD hK (hu1 hu) (de_var (i := 0) rfl (by first | exact .inl rfl | exact .inr (.inl rfl) | exact .inr (.inr rfl))) (de_var (i := 2) rfl (by first | exact .inl rfl | exact .inr (.inl rfl) | exact .inr (.inr rfl))) (fun _ _ => rfl)))) (fun D hK hS => (dv_fz (de_ixD hK (hu1 hu) (de_var (i := 1) rfl (by first | exact .inl rfl | exact .inr (.inl rfl) | exact .inr (.inr rfl))) (de_var (i := 2) rfl (by first | exact .inl rfl | exact .inr (.inl rfl) | exact .inr (.inr rfl))) (fun _ _ => rfl)))))
 (dss_cons (ds_setLc (i := 6) (own := [("value", 7), ("far", 8)]) hK rfl nd rfl rfl (sw_true rfl rfl rfl rfl) (di_zip hK rfl g_zip (de_var (i := 0) rfl (by first | exact .inl rfl | exact .inr (.inl rfl) | exact .inr (.inr rfl))) (de_var (i := 1) rfl (by first | exact .inl rfl | exact .inr (.inl rfl) | exact .inr (.inr rfl)))) (blkOk_by (by rfl)) (fun _ _ _ _ _ D hK hS => (dg_tup hK rfl (dgs_cons (dg_name (i := 7) nd rfl (by first | exact .inl rfl | exact .inr rfl)) (dgs_cons (dg_name (i := 8) nd rfl (by first | exact .inl rfl | exact .inr rfl)) dgs_nil)))) (fun _ _ _ _ _ D hK hS => pts0) (fun _ _ _ _ _ D hK hS => (de_op dop_div (de_op dop_sub (de_op (dop_times hK) (de_var (i := 7) rfl (by first | exact .inl rfl | exact .inr (.inl rfl) | exact .inr (.inr rfl))) (de_var (i := 5) rfl (by first | exact .inl rfl | exact .inr (.inl rfl) | exact .inr (.inr rfl)))) (de_op (dop_times hK) (de_var (i := 4) rfl (by first | exact .inl rfl | exact .inr (.inl rfl) | exact .inr (.inr rfl))) (de_var (i := 8) rfl (by first | exact .inl rfl | exact .inr (.inl rfl) | exact .inr (.inr rfl))))) (de_var (i := 3) rfl (by first | exact .inl rfl | exact .inr (.inl rfl) | exact .inr (.inr rfl))))) q_yes (q_bin (q_bin (q_bin q_var q_var) (q_bin q_var q_var)) q_var) (by decide))
 (dss_frz 6 (dss_cons (ds_ret (de_op (dop_plus hK (dop_add hK)) (de_op (dop_plus hK (dop_add hK)) (de_cut hK (de_var (i := 6) rfl (by first | exact .inl rfl | exact .inr (.inl rfl) | exact .inr (.inr rfl))) do_none (do_some (de_var (i := 2) rfl (by first | exact .inl rfl | exact .inr (.inl rfl) | exact .inr (.inr rfl))))) (de_fz (df_lst (da_cons (de_op dop_sub de_int (de_var (i := 4) rfl (by first | exact .inl rfl | exact .inr (.inl rfl) | exact .inr (.inr rfl)))) da_nil)))) (de_cut hK (de_var (i := 6) rfl (by first | exact .inl rfl | exact .inr (.inl rfl) | exact .inr (.inr rfl))) (do_some (de_op (dop_plus hK (dop_add hK)) (de_var (i := 2) rfl (by first | exact .inl rfl | exact .inr (.inl rfl) | exact .inr (.inr rfl))) de_int)) do_none)))
 dss_nil))))
def B_exchanged : SM :=
 (sSeq (sSet 4 (vOw (fLst aNil)))
 (sSeq (sFor (iEn (eVar 0)) (gTupW (gsCons (setFz 5) (gsCons (setFz 6) gsNil)))
 (sSeq (sIf (tVal (eBin gEq (eVar 5) (eVar 2)))
 (sSeq (sDrop (eOwn 4 (aCons (eFz (fComp (iEn (eVar 6)) (gTupW (gsCons (setFz 7) (gsCons (setFz 8) gsNil))) tYesM (eIf (tVal (eBin gEq (eVar 7) (eVar 3))) (eVar 1) (eVar 8)) [7, 8])) aNil) gApp))
 sNext)
 (sSeq (sDrop (eOwn 4 (aCons (eCall false F_line_behind [] (aCons (eVar 6) (aCons (eBin ixW (eVar 0) (eVar 2)) (aCons (eVar 3) (aCons (eVar 1) aNil))))) aNil) gApp))
 sNext))
 sNext))
 (sSeq (sFrz 4) (sSeq (sRet (eVar 4))
 sNext))))
def F_exchanged : FM := runB 9 B_exchanged
abbrev N_exchanged : List Str := ["rows", "bottom", "row", "spot", "found", "number", "line", "k", "value"]
theorem sc_exchanged : FnScope N_exchanged ["rows", "bottom", "row", "spot"] (defScope (top 25)) := ⟨rfl, rfl, rfl, by decide +kernel, rfl, by decide +kernel, by decide +kernel⟩
theorem ok_exchanged {P : Program} {w : World} {K : PySem.W.Frag} {mg : Str → Option Value} {base h : Heap} (KX : K.In h) (G : h.Ns mainGlobals mg) (c : He.SaysD fa fn K) (kt_SIZES : KTab K w (He.ga K "SIZES") tab_SIZES) : Has P w K mg base 2 "exchanged" ["rows", "bottom", "row", "spot"] (callP K false F_exchanged 4) := by
  have h_line_behind : Has P w K mg base _ _ _ _ := ok_line_behind KX G c kt_SIZES
  have g_enumerate := He.free_ok KX G (c.fact 16 (f := .free "enumerate") rfl)
  have nd := sc_exchanged.nd
  obtain ⟨fd, Fd⟩ := c.def_ 8 (d := d_exchanged) rfl
  refine ⟨fd, Fd.kp, FunD.bindsN Fd (fun _ _ _ _ _ _ us hl => match us, hl with | [_, _, _, _], _ => rfl), He.glo_ok KX G (c.fact 15 (f := .glo "exchanged") rfl), fn_ok Fd sc_exchanged fun cdv A outer s H E hr Wx tk D hK hst => ?_⟩
  have hu := DL.hu_of hr
  have hp : PassesOwn (model P w) (A.deeper (envOfC "exchanged" (defScope (top 25)) s.heap.objs.size (He.ga K "exchanged") cdv)) (envOfC "exchanged" (defScope (top 25)) s.heap.objs.size (He.ga K "exchanged") cdv) (cxOf (L2.CX P w) P w K mg base N_exchanged "exchanged" (defScope (top 25)) (He.ga K "exchanged") cdv A outer s H E).xe := passes_of (X := cxOf (L2.CX P w) P w K mg base N_exchanged "exchanged" (defScope (top 25)) (He.ga K "exchanged") cdv A outer s H E) rfl
  exact (dss_cons (ds_set (i := 4) nd rfl (by first | exact .inl rfl | exact .inr rfl) (dv_ow (df_lst da_nil)))
 (dss_cons (ds_for hp rfl (di_enum hK rfl g_enumerate (de_var (i := 0) rfl (by first | exact .inl rfl | exact .inr (.inl rfl) | exact .inr (.inr rfl)))) (dg_tup hK rfl (dgs_cons (dg_name (i := 5) nd rfl (by first | exact .inl rfl | exact .inr rfl)) (dgs_cons (dg_name (i := 6) nd rfl (by first | exact .inl rfl | exact .inr rfl)) dgs_nil)))
 (dss_cons (ds_if (dt_cmp (dop_eq hK (hu64 hu)) (de_var (i := 5) rfl (by first | exact .inl rfl | exact .inr (.inl rfl) | exact .inr (.inr rfl))) (de_var (i := 2) rfl (by first | exact .inl rfl | exact .inr (.inl rfl) | exact .inr (.inr rfl))) (nomark _))
 (dss_cons (ds_expr (de_own (i := 4) F.slot_list_append F.type_list_append down_app rfl (by first | exact .inl rfl | exact .inr (.inl rfl) | exact .inr (.inr rfl)) (da_cons (de_fz (df_comp (own := [("k", 7), ("value", 8)]) hK rfl nd (di_enum hK rfl g_enumerate (de_var (i := 6) rfl (by first | exact .inl rfl | exact .inr (.inl rfl) | exact .inr (.inr rfl)))) (blkOk_by (by rfl)) (fun _ _ _ _ _ D hK hS => (dg_tup hK rfl (dgs_cons (dg_name (i := 7) nd rfl (by first | exact .inl rfl | exact .inr rfl)) (dgs_cons (dg_name (i := 8) nd rfl (by first | exact .inl rfl | exact .inr rfl)) dgs_nil)))) (fun _ _ _ _ _ D hK hS => pts0) (fun _ _ _ _ _ D hK hS => (de_if (dt_cmp (dop_eq hK (hu64 hu)) (de_var (i := 7) rfl (by first | exact .inl rfl | exact .inr (.inl rfl) | exact .inr (.inr rfl))) (de_var (i := 3) rfl (by first | exact .inl rfl | exact .inr (.inl rfl) | exact .inr (.inr rfl))) (nomark _)) (de_var (i := 1) rfl (by first | exact .inl rfl | exact .inr (.inl rfl) | exact .inr (.inr rfl))) (de_var (i := 8) rfl (by first | exact .inl rfl | exact .inr (.inl rfl) | exact .inr (.inr rfl))))) q_yes (q_if (q_val (q_bin q_var q_var)) q_var q_var) (by decide))) da_nil)))
 dss_nil)
 (dss_cons (ds_expr (de_own (i := 4) F.slot_list_append F.type_list_append down_app rfl (by first | exact .inl rfl | exact .inr (.inl rfl) | exact .inr (.inr rfl)) (da_cons (de_fn h_line_behind (Room.mono hr (by decide)) rfl tk (da_cons (de_var (i := 6) rfl (by first | exact .inl rfl | exact .inr (.inl rfl) | exact .inr (.inr rfl))) (da_cons (de_ixD hK (hu1 hu) (de_var (i := 0) rfl (by first | exact .inl rfl | exact .inr (.inl rfl) | exact .inr (.inr rfl))) (de_var (i := 2) rfl (by first | exact .inl rfl | exact .inr (.inl rfl) | exact .inr (.inr rfl))) (fun _ _ => rfl)) (da_cons (de_var (i := 3) rfl (by first | exact .inl rfl | exact .inr (.inl rfl) | exact .inr (.inr rfl))) (da_cons (de_var (i := 1) rfl (by first | exact .inl rfl | exact .inr (.inl rfl) | exact .inr (.inr rfl))) da_nil)))) hK (fun h => Bool.noConfusion h) (lq_cons (lq_cons (lq_cons (lq_cons lq_nil))))) da_nil)))
 dss_nil))
 dss_nil))
 (dss_frz 4 (dss_cons (ds_ret (de_var (i := 4) rfl (by first | exact .inl rfl | exact .inr (.inl rfl) | exact .inr (.inr rfl))))
 dss_nil))))
def B_first_rows : SM :=
 (sSeq (sSet 3 (vOw (fLst aNil)))
 (sSeq (sFor (iZp (eVar 1) (eVar 2)) (gTupW (gsCons (setFz 4) (gsCons (setFz 5) gsNil)))
 (sSeq (sDrop (eOwn 3 (aCons (eBin gPlus (eFz (fComp (iR1 (aCons (eVar 0) aNil)) (setFz 6) tYesM (eOf gInt (aCons (eBin gInA (eVar 6) (eVar 4)) aNil)) [6])) (eFz (fLst (aCons (eVar 5) aNil)))) aNil) gApp))
 sNext))
 (sSeq (sFrz 3) (sSeq (sRet (eBin gPlus (eVar 3) (eFz (fLst (aCons (eBin gPlus (eBin gTimes (eFz (fLst (aCons (eUn gNeg (eC (.int 1))) aNil))) (eOf gInt (aCons (eVar 0) aNil))) (eFz (fLst (aCons (eC (.int 0)) aNil)))) aNil)))))
 sNext))))
def F_first_rows : FM := runB 7 B_first_rows
abbrev N_first_rows : List Str := ["columns", "lots", "exponents", "rows", "lot", "exponent", "column"]
theorem sc_first_rows : FnScope N_first_rows ["columns", "lots", "exponents"] (defScope (top 24)) := ⟨rfl, rfl, rfl, by decide +kernel, rfl, by decide +kernel, by decide +kernel⟩
theorem ok_first_rows {P : Program} {w : World} {K : PySem.W.Frag} {mg : Str → Option Value} {base h : Heap} (KX : K.In h) (G : h.Ns mainGlobals mg) (c : He.SaysD fa fn K) (kt_SIZES : KTab K w (He.ga K "SIZES") tab_SIZES) : Has P w K mg base 1 "first_rows" ["columns", "lots", "exponents"] (callP K false F_first_rows 3) := by
  have g_int := He.free_ok KX G (c.fact 3 (f := .free "int") rfl)
  have g_range := He.free_ok KX G (c.fact 9 (f := .free "range") rfl)
  have g_zip := He.free_ok KX G (c.fact 14 (f := .free "zip") rfl)
  have nd := sc_first_rows.nd
  obtain ⟨fd, Fd⟩ := c.def_ 9 (d := d_first_rows) rfl
  refine ⟨fd, Fd.kp, FunD.bindsN Fd (fun _ _ _ _ _ _ us hl => match us, hl with | [_, _, _], _ => rfl), He.glo_ok KX G (c.fact 17 (f := .glo "first_rows") rfl), fn_ok Fd sc_first_rows fun cdv A outer s H E hr Wx tk D hK hst => ?_⟩
  have hu := DL.hu_of hr
  have hp : PassesOwn (model P w) (A.deeper (envOfC "first_rows" (defScope (top 24)) s.heap.objs.size (He.ga K "first_rows") cdv)) (envOfC "first_rows" (defScope (top 24)) s.heap.objs.size (He.ga K "first_rows") cdv) (cxOf (L2.CX P w) P w K mg base N_first_rows "first_rows" (defScope (top 24)) (He.ga K "first_rows") cdv A outer s H E).xe := passes_of (X := cxOf (L2.CX P w) P w K mg base N_first_rows "first_rows" (defScope (top 24)) (He.ga K "first_rows") cdv A outer s H E) rfl
  exact (dss_cons (ds_set (i := 3) nd rfl (by first | exact .inl rfl | exact .inr rfl) (dv_ow (df_lst da_nil)))
 (dss_cons (ds_for hp rfl (di_zip hK rfl g_zip (de_var (i := 1) rfl (by first | exact .inl rfl | exact .inr (.inl rfl) | exact .inr (.inr rfl))) (de_var (i := 2) rfl (by first | exact .inl rfl | exact .inr (.inl rfl) | exact .inr (.inr rfl)))) (dg_tup hK rfl (dgs_cons (dg_name (i := 4) nd rfl (by first | exact .inl rfl | exact .inr rfl)) (dgs_cons (dg_name (i := 5) nd rfl (by first | exact .inl rfl | exact .inr rfl)) dgs_nil)))
 (dss_cons (ds_expr (de_own (i := 3) F.slot_list_append F.type_list_append down_app rfl (by first | exact .inl rfl | exact .inr (.inl rfl) | exact .inr (.inr rfl)) (da_cons (de_op (dop_plus hK (dop_add hK)) (de_fz (df_comp (own := [("column", 6)]) hK rfl nd (di_range1 rfl g_range (da_cons (de_var (i := 0) rfl (by first | exact .inl rfl | exact .inr (.inl rfl) | exact .inr (.inr rfl))) da_nil)) (blkOk_by (by rfl)) (fun _ _ _ _ _ D hK hS => (dg_name (i := 6) nd rfl (by first | exact .inl rfl | exact .inr rfl))) (fun _ _ _ _ _ D hK hS => pts0) (fun _ _ _ _ _ D hK hS => (de_callTy dc_int rfl g_int bt_int (da_cons (de_cmp (dop_inA hK hu) (de_var (i := 6) rfl (by first | exact .inl rfl | exact .inr (.inl rfl) | exact .inr (.inr rfl))) (de_var (i := 4) rfl (by first | exact .inl rfl | exact .inr (.inl rfl) | exact .inr (.inr rfl))) (by with_unfolding_all rfl)) da_nil))) q_yes (q_of (q_cons (q_bin q_var q_var) q_nil)) (by decide))) (de_fz (df_lst (da_cons (de_var (i := 5) rfl (by first | exact .inl rfl | exact .inr (.inl rfl) | exact .inr (.inr rfl))) da_nil)))) da_nil)))
 dss_nil))
 (dss_frz 3 (dss_cons (ds_ret (de_op (dop_plus hK (dop_add hK)) (de_var (i := 3) rfl (by first | exact .inl rfl | exact .inr (.inl rfl) | exact .inr (.inr rfl))) (de_fz (df_lst (da_cons (de_op (dop_plus hK (dop_add hK)) (de_op (dop_times hK) (de_fz (df_lst (da_cons (de_neg de_int) da_nil))) (de_callTy dc_int rfl g_int bt_int (da_cons (de_var (i := 0) rfl (by first | exact .inl rfl | exact .inr (.inl rfl) | exact .inr (.inr rfl))) da_nil))) (de_fz (df_lst (da_cons de_int da_nil)))) da_nil)))))
 dss_nil))))
def B_row_of : SM :=
 (sSeq (sSet 3 (vFz (eC .none)))
 (sSeq (sFor (iEn (eVar 1)) (gTupW (gsCons (setFz 4) (gsCons (setFz 5) gsNil)))
 (sSeq (sIf (tVal (eBin gGt (eBin ixW (eBin ixW (eVar 0) (eVar 4)) (eVar 2)) (eC (.int 0))))
 (sSeq (sSet 6 (vFz (eTup (aCons (eBin ixW (eBin ixW (eVar 0) (eVar 4)) (eUn gNeg (eC (.int 1)))) (aCons (eBin ixW (eBin ixW (eVar 0) (eVar 4)) (eVar 2)) (aCons (eVar 5) (aCons (eVar 4) aNil)))))))
 (sSeq (sIf (tVal (eBin gIs (eVar 3) (eC .none)))
 (sSeq (sSet 3 (vFz (eVar 6)))
 sNext)
 (sSeq (sPar [7, 8] [(vFz (eBin gTimes (eBin ixW (eVar 6) (eC (.int 0))) (eBin ixW (eVar 3) (eC (.int 1))))), (vFz (eBin gTimes (eBin ixW (eVar 3) (eC (.int 0))) (eBin ixW (eVar 6) (eC (.int 1)))))])
 (sSeq (sSet 3 (vFz (eIf (tOr (tVal (eBin gLt (eVar 7) (eVar 8))) (tAnd (tVal (eBin gEq (eVar 7) (eVar 8))) (tVal (eBin gLt (eBin ixW (eVar 6) (eC (.int 2))) (eBin ixW (eVar 3) (eC (.int 2))))))) (eVar 6) (eVar 3))))
 sNext)))
 sNext))
 sNext)
 sNext))
 (sSeq (sRet (eBin ixW (eVar 3) (eC (.int 3))))
 sNext)))
def F_row_of : FM := runB 9 B_row_of
abbrev N_row_of : List Str := ["rows", "inner", "spot", "best", "number", "name", "one", "mine", "yours"]
theorem sc_row_of : FnScope N_row_of ["rows", "inner", "spot"] (defScope (top 28)) := ⟨rfl, rfl, rfl, by decide +kernel, rfl, by decide +kernel, by decide +kernel⟩
theorem ok_row_of {P : Program} {w : World} {K : PySem.W.Frag} {mg : Str → Option Value} {base h : Heap} (KX : K.In h) (G : h.Ns mainGlobals mg) (c : He.SaysD fa fn K) (kt_SIZES : KTab K w (He.ga K "SIZES") tab_SIZES) : Has P w K mg base 1 "row_of" ["rows", "inner", "spot"] (callP K false F_row_of 3) := by
  have g_enumerate := He.free_ok KX G (c.fact 16 (f := .free "enumerate") rfl)
  have nd := sc_row_of.nd
  obtain ⟨fd, Fd⟩ := c.def_ 10 (d := d_row_of) rfl
  refine ⟨fd, Fd.kp, FunD.bindsN Fd (fun _ _ _ _ _ _ us hl => match us, hl with | [_, _, _], _ => rfl), He.glo_ok KX G (c.fact 18 (f := .glo "row_of") rfl), fn_ok Fd sc_row_of fun cdv A outer s H E hr Wx tk D hK hst => ?_⟩
  have hu := DL.hu_of hr
  have hp : PassesOwn (model P w) (A.deeper (envOfC "row_of" (defScope (top 28)) s.heap.objs.size (He.ga K "row_of") cdv)) (envOfC "row_of" (defScope (top 28)) s.heap.objs.size (He.ga K "row_of") cdv) (cxOf (L2.CX P w) P w K mg base N_row_of "row_of" (defScope (top 28)) (He.ga K "row_of") cdv A outer s H E).xe := passes_of (X := cxOf (L2.CX P w) P w K mg base N_row_of "row_of" (defScope (top 28)) (He.ga K "row_of") cdv A outer s H E) rfl
  exact (dss_cons (ds_set (i := 3) nd rfl (by first | exact .inl rfl | exact .inr rfl) (dv_fz de_non))
 (dss_cons (ds_for hp rfl (di_enum hK rfl g_enumerate (de_var (i := 1) rfl (by first | exact .inl rfl | exact .inr (.inl rfl) | exact .inr (.inr rfl)))) (dg_tup hK rfl (dgs_cons (dg_name (i := 4) nd rfl (by first | exact .inl rfl | exact .inr rfl)) (dgs_cons (dg_name (i := 5) nd rfl (by first | exact .inl rfl | exact .inr rfl)) dgs_nil)))
 (dss_cons (ds_if (dt_cmp (dop_gt hK (hu64 hu)) (de_ixD hK (hu1 hu) (de_ixD hK (hu1 hu) (de_var (i := 0) rfl (by first | exact .inl rfl | exact .inr (.inl rfl) | exact .inr (.inr rfl))) (de_var (i := 4) rfl (by first | exact .inl rfl | exact .inr (.inl rfl) | exact .inr (.inr rfl))) (fun _ _ => rfl)) (de_var (i := 2) rfl (by first | exact .inl rfl | exact .inr (.inl rfl) | exact .inr (.inr rfl))) (fun _ _ => rfl)) de_int (nomark _))
 (dss_cons (ds_set (i := 6) nd rfl (by first | exact .inl rfl | exact .inr rfl) (dv_fz (de_tup (da_cons (de_ixD hK (hu1 hu) (de_ixD hK (hu1 hu) (de_var (i := 0) rfl (by first | exact .inl rfl | exact .inr (.inl rfl) | exact .inr (.inr rfl))) (de_var (i := 4) rfl (by first | exact .inl rfl | exact .inr (.inl rfl) | exact .inr (.inr rfl))) (fun _ _ => rfl)) (de_neg de_int) (fun _ _ => rfl)) (da_cons (de_ixD hK (hu1 hu) (de_ixD hK (hu1 hu) (de_var (i := 0) rfl (by first | exact .inl rfl | exact .inr (.inl rfl) | exact .inr (.inr rfl))) (de_var (i := 4) rfl (by first | exact .inl rfl | exact .inr (.inl rfl) | exact .inr (.inr rfl))) (fun _ _ => rfl)) (de_var (i := 2) rfl (by first | exact .inl rfl | exact .inr (.inl rfl) | exact .inr (.inr rfl))) (fun _ _ => rfl)) (da_cons (de_var (i := 5) rfl (by first | exact .inl rfl | exact .inr (.inl rfl) | exact .inr (.inr rfl))) (da_cons (de_var (i := 4) rfl (by first | exact .inl rfl | exact .inr (.inl rfl) | exact .inr (.inr rfl))) da_nil)))))))
 (dss_cons (ds_if (dt_cmp dop_is (de_var (i := 3) rfl (by first | exact .inl rfl | exact .inr (.inl rfl) | exact .inr (.inr rfl))) de_non (nomark _))
 (dss_cons (ds_set (i := 3) nd rfl (by first | exact .inl rfl | exact .inr rfl) (dv_fz (de_var (i := 6) rfl (by first | exact .inl rfl | exact .inr (.inl rfl) | exact .inr (.inr rfl)))))
 dss_nil)
 (dss_cons (ds_par2 (i := 7) (j := 8) hK rfl nd rfl rfl (by decide) rfl rfl (fun D hK hS => (dv_fz (de_op (dop_times hK) (de_ixD hK (hu1 hu) (de_var (i := 6) rfl (by first | exact .inl rfl | exact .inr (.inl rfl) | exact .inr (.inr rfl))) de_int (fun _ _ => rfl)) (de_ixD hK (hu1 hu) (de_var (i := 3) rfl (by first | exact .inl rfl | exact .inr (.inl rfl) | exact .inr (.inr rfl))) de_int (fun _ _ => rfl))))) (fun D hK hS => (dv_fz (de_op (dop_times hK) (de_ixD hK (hu1 hu) (de_var (i := 3) rfl (by first | exact .inl rfl | exact .inr (.inl rfl) | exact .inr (.inr rfl))) de_int (fun _ _ => rfl)) (de_ixD hK (hu1 hu) (de_var (i := 6) rfl (by first | exact .inl rfl | exact .inr (.inl rfl) | exact .inr (.inr rfl))) de_int (fun _ _ => rfl))))) (by rfl))
 (dss_cons (ds_set (i := 3) nd rfl (by first | exact .inl rfl | exact .inr rfl) (dv_fz (de_if (DW.pt (dw_or (dt_cmp (dop_lt hK (hu64 hu)) (de_var (i := 7) rfl (by first | exact .inl rfl | exact .inr (.inl rfl) | exact .inr (.inr rfl))) (de_var (i := 8) rfl (by first | exact .inl rfl | exact .inr (.inl rfl) | exact .inr (.inr rfl))) (nomark _)) (dw_or1 (DW.pt (dw_and (dt_cmp (dop_eq hK (hu64 hu)) (de_var (i := 7) rfl (by first | exact .inl rfl | exact .inr (.inl rfl) | exact .inr (.inr rfl))) (de_var (i := 8) rfl (by first | exact .inl rfl | exact .inr (.inl rfl) | exact .inr (.inr rfl))) (nomark _)) (dw_and1 (dt_cmp (dop_lt hK (hu64 hu)) (de_ixD hK (hu1 hu) (de_var (i := 6) rfl (by first | exact .inl rfl | exact .inr (.inl rfl) | exact .inr (.inr rfl))) de_int (fun _ _ => rfl)) (de_ixD hK (hu1 hu) (de_var (i := 3) rfl (by first | exact .inl rfl | exact .inr (.inl rfl) | exact .inr (.inr rfl))) de_int (fun _ _ => rfl)) (nomark _)))))))) (de_var (i := 6) rfl (by first | exact .inl rfl | exact .inr (.inl rfl) | exact .inr (.inr rfl))) (de_var (i := 3) rfl (by first | exact .inl rfl | exact .inr (.inl rfl) | exact .inr (.inr rfl))))))
 dss_nil)))
 dss_nil))
 dss_nil)
 dss_nil))
 (dss_cons (ds_ret (de_ixD hK (hu1 hu) (de_var (i := 3) rfl (by first | exact .inl rfl | exact .inr (.inl rfl) | exact .inr (.inr rfl))) de_int (fun _ _ => rfl)))
 dss_nil)))
def B_spot_of : SM :=
 (sSeq (sSet 2 (vOw (fComp (iEn (eVar 1)) (gTupW (gsCons (setFz 3) (gsCons (setFz 4) gsNil))) (tVal (eBin gLt (eBin ixW (eBin ixW (eVar 0) (eUn gNeg (eC (.int 1)))) (eVar 3)) (eC (.int 0)))) (eTup (aCons (eVar 4) (aCons (eVar 3) aNil))) [3, 4])))
 (sSeq (sFrz 2) (sSeq (sRet (eIf (tVal (eBin gNe (eVar 2) (eFz (fLst aNil)))) (eBin ixW (eOf gMinA (aCons (eVar 2) aNil)) (eC (.int 1))) (eC .none)))
 sNext)))
def F_spot_of : FM := runB 5 B_spot_of
abbrev N_spot_of : List Str := ["rows", "outer", "some", "spot", "name"]
theorem sc_spot_of : FnScope N_spot_of ["rows", "outer"] (defScope (top 27)) := ⟨rfl, rfl, rfl, by decide +kernel, rfl, by decide +kernel, by decide +kernel⟩
theorem ok_spot_of {P : Program} {w : World} {K : PySem.W.Frag} {mg : Str → Option Value} {base h : Heap} (KX : K.In h) (G : h.Ns mainGlobals mg) (c : He.SaysD fa fn K) (kt_SIZES : KTab K w (He.ga K "SIZES") tab_SIZES) : Has P w K mg base 1 "spot_of" ["rows", "outer"] (callP K false F_spot_of 2) := by
  have g_enumerate := He.free_ok KX G (c.fact 16 (f := .free "enumerate") rfl)
  have g_min := He.free_ok KX G (c.fact 20 (f := .free "min") rfl)
  have nd := sc_spot_of.nd
  obtain ⟨fd, Fd⟩ := c.def_ 11 (d := d_spot_of) rfl
  refine ⟨fd, Fd.kp, FunD.bindsN Fd (fun _ _ _ _ _ _ us hl => match us, hl with | [_, _], _ => rfl), He.glo_ok KX G (c.fact 19 (f := .glo "spot_of") rfl), fn_ok Fd sc_spot_of fun cdv A outer s H E hr Wx tk D hK hst => ?_⟩
  have hu := DL.hu_of hr
  have hp : PassesOwn (model P w) (A.deeper (envOfC "spot_of" (defScope (top 27)) s.heap.objs.size (He.ga K "spot_of") cdv)) (envOfC "spot_of" (defScope (top 27)) s.heap.objs.size (He.ga K "spot_of") cdv) (cxOf (L2.CX P w) P w K mg base N_spot_of "spot_of" (defScope (top 27)) (He.ga K "spot_of") cdv A outer s H E).xe := passes_of (X := cxOf (L2.CX P w) P w K mg base N_spot_of "spot_of" (defScope (top 27)) (He.ga K "spot_of") cdv A outer s H E) rfl
  exact (dss_cons (ds_setLc (i := 2) (own := [("spot", 3), ("name", 4)]) hK rfl nd rfl rfl (sw_true rfl rfl rfl rfl) (di_enum hK rfl g_enumerate (de_var (i := 1) rfl (by first | exact .inl rfl | exact .inr (.inl rfl) | exact .inr (.inr rfl)))) (blkOk_by (by rfl)) (fun _ _ _ _ _ D hK hS => (dg_tup hK rfl (dgs_cons (dg_name (i := 3) nd rfl (by first | exact .inl rfl | exact .inr rfl)) (dgs_cons (dg_name (i := 4) nd rfl (by first | exact .inl rfl | exact .inr rfl)) dgs_nil)))) (fun _ _ _ _ _ D hK hS => (pts1 (dt_cmp (dop_lt hK (hu64 hu)) (de_ixD hK (hu1 hu) (de_ixD hK (hu1 hu) (de_var (i := 0) rfl (by first | exact .inl rfl | exact .inr (.inl rfl) | exact .inr (.inr rfl))) (de_neg de_int) (fun _ _ => rfl)) (de_var (i := 3) rfl (by first | exact .inl rfl | exact .inr (.inl rfl) | exact .inr (.inr rfl))) (fun _ _ => rfl)) de_int (nomark _)))) (fun _ _ _ _ _ D hK hS => (de_tup (da_cons (de_var (i := 4) rfl (by first | exact .inl rfl | exact .inr (.inl rfl) | exact .inr (.inr rfl))) (da_cons (de_var (i := 3) rfl (by first | exact .inl rfl | exact .inr (.inl rfl) | exact .inr (.inr rfl))) da_nil)))) (q_val (q_bin (q_bin (q_bin q_var (q_un q_c)) q_var) q_c)) (q_tup (q_cons q_var (q_cons q_var q_nil))) (by decide))
 (dss_frz 2 (dss_cons (ds_ret (de_if (dt_cmp (dop_ne hK (hu64 hu)) (de_var (i := 2) rfl (by first | exact .inl rfl | exact .inr (.inl rfl) | exact .inr (.inr rfl))) (de_fz (df_lst da_nil)) (nomark _)) (de_ixD hK (hu1 hu) (de_callB (dc_minA hK rfl hu) rfl g_min bt_min (da_cons (de_var (i := 2) rfl (by first | exact .inl rfl | exact .inr (.inl rfl) | exact .inr (.inr rfl))) da_nil)) de_int (fun _ _ => rfl)) de_non))
 dss_nil)))
def B_solved_by : SM :=
 (sSeq (sPar [3, 4] [(vFz (eCall false F_first_rows [] (aCons (eVar 0) (aCons (eVar 1) (aCons (eVar 2) aNil))))), (vFz (eC (.int 1)))])
 (sSeq (sPar [5, 6] [(vOw (fRg1 (eVar 0))), (vOw (fRg2 (eVar 0) (eBin gPlus (eVar 0) (eOf gLen (aCons (eVar 1) aNil)))))])
 (sSeq (sSet 7 (vFz (eHold 5 (eCall false F_spot_of [] (aCons (eVar 3) (aCons (eVar 5) aNil))))))
 (sSeq (sWhile fuel (tVal (eBin gIsNot (eVar 7) (eC .none)))
 (sSeq (sSet 8 (vFz (eHold 6 (eCall false F_row_of [] (aCons (eVar 3) (aCons (eVar 6) (aCons (eVar 7) aNil)))))))
 (sSeq (sSet 9 (vFz (eBin ixW (eBin ixW (eVar 3) (eVar 8)) (eVar 7))))
 (sSeq (sSet 3 (vFz (eCall false F_exchanged [] (aCons (eVar 3) (aCons (eVar 4) (aCons (eVar 8) (aCons (eVar 7) aNil)))))))
 (sSeq (sSet 4 (vFz (eVar 9)))
 (sSeq (sAsg (eTup (aCons (eIxO 6 (eVar 8)) (aCons (eIxO 5 (eVar 7)) aNil))) (gTupW (gsCons (gSetI 5 (eVar 7)) (gsCons (gSetI 6 (eVar 8)) gsNil))))
 (sSeq (sSet 7 (vFz (eHold 5 (eCall false F_spot_of [] (aCons (eVar 3) (aCons (eVar 5) aNil))))))
 sNext)))))))
 (sSeq (sPar [10, 11] [(vOw (fBin gRepL (eFz (fLst (aCons (eC (.int 0)) aNil))) (eOf gInt (aCons (eVar 0) aNil)))), (vOw (fBin gRepL (eFz (fLst (aCons (eC (.int 0)) aNil))) (eOf gInt (aCons (eOf gLen (aCons (eVar 1) aNil)) aNil))))])
 (sSeq (sFrz 6) (sSeq (sFor (iEn (eVar 6)) (gTupW (gsCons (setFz 12) (gsCons (setFz 13) gsNil)))
 (sSeq (sIf (tVal (eBin gLt (eVar 13) (eVar 0)))
 (sSeq (sAsg (eBin ixW (eBin ixW (eVar 3) (eVar 12)) (eUn gNeg (eC (.int 1)))) (gSetI 10 (eVar 13)))
 sNext)
 sNext)
 sNext))
 (sSeq (sFrz 5) (sSeq (sFor (iEn (eVar 5)) (gTupW (gsCons (setFz 12) (gsCons (setFz 13) gsNil)))
 (sSeq (sIf (tVal (eBin gGe (eVar 13) (eVar 0)))
 (sSeq (sAsg (eBin ixW (eBin ixW (eVar 3) (eUn gNeg (eC (.int 1)))) (eVar 12)) (gSetI 11 (eBin gSubI (eVar 13) (eVar 0))))
 sNext)
 sNext)
 sNext))
 (sSeq (sFrz 10) (sSeq (sFrz 11) (sSeq (sRet (eTup (aCons (eVar 4) (aCons (eOf gTuple (aCons (eVar 10) aNil)) (aCons (eOf gTuple (aCons (eVar 11) aNil)) aNil)))))
 sNext))))))))))))
def F_solved_by : FM := runB 14 B_solved_by
abbrev N_solved_by : List Str := ["columns", "lots", "exponents", "rows", "bottom", "outer", "inner", "spot", "row", "pivot", "sizes", "hefts", "number", "name"]
theorem sc_solved_by : FnScope N_solved_by ["columns", "lots", "exponents"] (defScope (top 30)) := ⟨rfl, rfl, rfl, by decide +kernel, rfl, by decide +kernel, by decide +kernel⟩
theorem ok_solved_by {P : Program} {w : World} {K : PySem.W.Frag} {mg : Str → Option Value} {base h : Heap} (KX : K.In h) (G : h.Ns mainGlobals mg) (c : He.SaysD fa fn K) (kt_SIZES : KTab K w (He.ga K "SIZES") tab_SIZES) : Has P w K mg base 3 "solved_by" ["columns", "lots", "exponents"] (callP K false F_solved_by 3) := by
  have h_exchanged : Has P w K mg base _ _ _ _ := ok_exchanged KX G c kt_SIZES
  have h_first_rows : Has P w K mg base _ _ _ _ := ok_first_rows KX G c kt_SIZES
  have h_row_of : Has P w K mg base _ _ _ _ := ok_row_of KX G c kt_SIZES
  have h_spot_of : Has P w K mg base _ _ _ _ := ok_spot_of KX G c kt_SIZES
  have g_enumerate := He.free_ok KX G (c.fact 16 (f := .free "enumerate") rfl)
  have g_int := He.free_ok KX G (c.fact 3 (f := .free "int") rfl)
  have g_len := He.free_ok KX G (c.fact 5 (f := .free "len") rfl)
  have g_list := He.free_ok KX G (c.fact 1 (f := .free "list") rfl)
  have g_range := He.free_ok KX G (c.fact 9 (f := .free "range") rfl)
  have g_tuple := He.free_ok KX G (c.fact 7 (f := .free "tuple") rfl)
  have nd := sc_solved_by.nd
  obtain ⟨fd, Fd⟩ := c.def_ 12 (d := d_solved_by) rfl
  refine ⟨fd, Fd.kp, FunD.bindsN Fd (fun _ _ _ _ _ _ us hl => match us, hl with | [_, _, _], _ => rfl), He.glo_ok KX G (c.fact 21 (f := .glo "solved_by") rfl), fn_ok Fd sc_solved_by fun cdv A outer s H E hr Wx tk D hK hst => ?_⟩
  have hu := DL.hu_of hr
  have hp : PassesOwn (model P w) (A.deeper (envOfC "solved_by" (defScope (top 30)) s.heap.objs.size (He.ga K "solved_by") cdv)) (envOfC "solved_by" (defScope (top 30)) s.heap.objs.size (He.ga K "solved_by") cdv) (cxOf (L2.CX P w) P w K mg base N_solved_by "solved_by" (defScope (top 30)) (He.ga K "solved_by") cdv A outer s H E).xe := passes_of (X := cxOf (L2.CX P w) P w K mg base N_solved_by "solved_by" (defScope (top 30)) (He.ga K "solved_by") cdv A outer s H E) rfl
  exact (dss_cons (ds_par2 (i := 3) (j := 4) hK rfl nd rfl rfl (by decide) rfl rfl (fun D hK hS => (dv_fz (de_fn h_first_rows (Room.mono hr (by decide)) rfl tk (da_cons (de_var (i := 0) rfl (by first | exact .inl rfl | exact .inr (.inl rfl) | exact .inr (.inr rfl))) (da_cons (de_var (i := 1) rfl (by first | exact .inl rfl | exact .inr (.inl rfl) | exact .inr (.inr rfl))) (da_cons (de_var (i := 2) rfl (by first | exact .inl rfl | exact .inr (.inl rfl) | exact .inr (.inr rfl))) da_nil))) hK (fun h => Bool.noConfusion h) (lq_cons (lq_cons (lq_cons lq_nil)))))) (fun D hK hS => (dv_fz de_int)) (by rfl))
 (dss_cons (ds_par2 (i := 5) (j := 6) hK rfl nd rfl rfl (by decide) rfl rfl (fun D hK hS => (dv_ow (df_rg1 rfl rfl g_range rfl g_list (de_var (i := 0) rfl (by first | exact .inl rfl | exact .inr (.inl rfl) | exact .inr (.inr rfl)))))) (fun D hK hS => (dv_ow (df_rg2 rfl rfl g_range rfl g_list (de_var (i := 0) rfl (by first | exact .inl rfl | exact .inr (.inl rfl) | exact .inr (.inr rfl))) (de_op (dop_plus hK (dop_add hK)) (de_var (i := 0) rfl (by first | exact .inl rfl | exact .inr (.inl rfl) | exact .inr (.inr rfl))) (de_callB (dc_len hK) rfl g_len bt_len (da_cons (de_var (i := 1) rfl (by first | exact .inl rfl | exact .inr (.inl rfl) | exact .inr (.inr rfl))) da_nil)))))) (by rfl))
 (dss_cons (ds_set (i := 7) nd rfl (by first | exact .inl rfl | exact .inr rfl) (dv_fz (de_hold (i := 5) (de_fn h_spot_of (Room.mono hr (by decide)) rfl tk (da_cons (de_var (i := 3) rfl (by first | exact .inl rfl | exact .inr (.inl rfl) | exact .inr (.inr rfl))) (da_cons (de_var (i := 5) rfl (by first | exact .inl rfl | exact .inr (.inl rfl) | exact .inr (.inr rfl))) da_nil)) hK (fun h => Bool.noConfusion h) (lq_cons (lq_cons lq_nil))) (q_call (q_cons q_var (q_cons q_var q_nil))))))
 (dss_cons (ds_while hp (dt_cmp dop_isnot (de_var (i := 7) rfl (by first | exact .inl rfl | exact .inr (.inl rfl) | exact .inr (.inr rfl))) de_non (nomark _))
 (dss_cons (ds_set (i := 8) nd rfl (by first | exact .inl rfl | exact .inr rfl) (dv_fz (de_hold (i := 6) (de_fn h_row_of (Room.mono hr (by decide)) rfl tk (da_cons (de_var (i := 3) rfl (by first | exact .inl rfl | exact .inr (.inl rfl) | exact .inr (.inr rfl))) (da_cons (de_var (i := 6) rfl (by first | exact .inl rfl | exact .inr (.inl rfl) | exact .inr (.inr rfl))) (da_cons (de_var (i := 7) rfl (by first | exact .inl rfl | exact .inr (.inl rfl) | exact .inr (.inr rfl))) da_nil))) hK (fun h => Bool.noConfusion h) (lq_cons (lq_cons (lq_cons lq_nil)))) (q_call (q_cons q_var (q_cons q_var (q_cons q_var q_nil)))))))
 (dss_cons (ds_set (i := 9) nd rfl (by first | exact .inl rfl | exact .inr rfl) (dv_fz (de_ixD hK (hu1 hu) (de_ixD hK (hu1 hu) (de_var (i := 3) rfl (by first | exact .inl rfl | exact .inr (.inl rfl) | exact .inr (.inr rfl))) (de_var (i := 8) rfl (by first | exact .inl rfl | exact .inr (.inl rfl) | exact .inr (.inr rfl))) (fun _ _ => rfl)) (de_var (i := 7) rfl (by first | exact .inl rfl | exact .inr (.inl rfl) | exact .inr (.inr rfl))) (fun _ _ => rfl))))
 (dss_cons (ds_set (i := 3) nd rfl (by first | exact .inl rfl | exact .inr rfl) (dv_fz (de_fn h_exchanged (Room.mono hr (by decide)) rfl tk (da_cons (de_var (i := 3) rfl (by first | exact .inl rfl | exact .inr (.inl rfl) | exact .inr (.inr rfl))) (da_cons (de_var (i := 4) rfl (by first | exact .inl rfl | exact .inr (.inl rfl) | exact .inr (.inr rfl))) (da_cons (de_var (i := 8) rfl (by first | exact .inl rfl | exact .inr (.inl rfl) | exact .inr (.inr rfl))) (da_cons (de_var (i := 7) rfl (by first | exact .inl rfl | exact .inr (.inl rfl) | exact .inr (.inr rfl))) da_nil)))) hK (fun h => Bool.noConfusion h) (lq_cons (lq_cons (lq_cons (lq_cons lq_nil)))))))
 (dss_cons (ds_set (i := 4) nd rfl (by first | exact .inl rfl | exact .inr rfl) (dv_fz (de_var (i := 9) rfl (by first | exact .inl rfl | exact .inr (.inl rfl) | exact .inr (.inr rfl)))))
 (dss_cons (ds_asg (de_tup (da_cons (de_ixO (i := 6) rfl (by first | exact .inl rfl | exact .inr (.inl rfl) | exact .inr (.inr rfl)) (de_var (i := 8) rfl (by first | exact .inl rfl | exact .inr (.inl rfl) | exact .inr (.inr rfl))) (fun _ _ => rfl)) (da_cons (de_ixO (i := 5) rfl (by first | exact .inl rfl | exact .inr (.inl rfl) | exact .inr (.inr rfl)) (de_var (i := 7) rfl (by first | exact .inl rfl | exact .inr (.inl rfl) | exact .inr (.inr rfl))) (fun _ _ => rfl)) da_nil))) (dg_tup hK rfl (dgs_cons (dg_set (i := 5) rfl (by first | exact .inl rfl | exact .inr (.inl rfl) | exact .inr (.inr rfl)) (de_var (i := 7) rfl (by first | exact .inl rfl | exact .inr (.inl rfl) | exact .inr (.inr rfl))) q_var) (dgs_cons (dg_set (i := 6) rfl (by first | exact .inl rfl | exact .inr (.inl rfl) | exact .inr (.inr rfl)) (de_var (i := 8) rfl (by first | exact .inl rfl | exact .inr (.inl rfl) | exact .inr (.inr rfl))) q_var) dgs_nil))))
 (dss_cons (ds_set (i := 7) nd rfl (by first | exact .inl rfl | exact .inr rfl) (dv_fz (de_hold (i := 5) (de_fn h_spot_of (Room.mono hr (by decide)) rfl tk (da_cons (de_var (i := 3) rfl (by first | exact .inl rfl | exact .inr (.inl rfl) | exact .inr (.inr rfl))) (da_cons (de_var (i := 5) rfl (by first | exact .inl rfl | exact .inr (.inl rfl) | exact .inr (.inr rfl))) da_nil)) hK (fun h => Bool.noConfusion h) (lq_cons (lq_cons lq_nil))) (q_call (q_cons q_var (q_cons q_var q_nil))))))
 dss_nil)))))))
 (dss_cons (ds_par2 (i := 10) (j := 11) hK rfl nd rfl rfl (by decide) rfl rfl (fun D hK hS => (dv_ow (df_op (dop_repL hK) (de_fz (df_lst (da_cons de_int da_nil))) (de_callTy dc_int rfl g_int bt_int (da_cons (de_var (i := 0) rfl (by first | exact .inl rfl | exact .inr (.inl rfl) | exact .inr (.inr rfl))) da_nil))))) (fun D hK hS => (dv_ow (df_op (dop_repL hK) (de_fz (df_lst (da_cons de_int da_nil))) (de_callTy dc_int rfl g_int bt_int (da_cons (de_callB (dc_len hK) rfl g_len bt_len (da_cons (de_var (i := 1) rfl (by first | exact .inl rfl | exact .inr (.inl rfl) | exact .inr (.inr rfl))) da_nil)) da_nil))))) (by rfl))
 (dss_frz 6 (dss_cons (ds_for hp rfl (di_enum hK rfl g_enumerate (de_var (i := 6) rfl (by first | exact .inl rfl | exact .inr (.inl rfl) | exact .inr (.inr rfl)))) (dg_tup hK rfl (dgs_cons (dg_name (i := 12) nd rfl (by first | exact .inl rfl | exact .inr rfl)) (dgs_cons (dg_name (i := 13) nd rfl (by first | exact .inl rfl | exact .inr rfl)) dgs_nil)))
 (dss_cons (ds_if (dt_cmp (dop_lt hK (hu64 hu)) (de_var (i := 13) rfl (by first | exact .inl rfl | exact .inr (.inl rfl) | exact .inr (.inr rfl))) (de_var (i := 0) rfl (by first | exact .inl rfl | exact .inr (.inl rfl) | exact .inr (.inr rfl))) (nomark _))
 (dss_cons (ds_asg (de_ixD hK (hu1 hu) (de_ixD hK (hu1 hu) (de_var (i := 3) rfl (by first | exact .inl rfl | exact .inr (.inl rfl) | exact .inr (.inr rfl))) (de_var (i := 12) rfl (by first | exact .inl rfl | exact .inr (.inl rfl) | exact .inr (.inr rfl))) (fun _ _ => rfl)) (de_neg de_int) (fun _ _ => rfl)) (dg_set (i := 10) rfl (by first | exact .inl rfl | exact .inr (.inl rfl) | exact .inr (.inr rfl)) (de_var (i := 13) rfl (by first | exact .inl rfl | exact .inr (.inl rfl) | exact .inr (.inr rfl))) q_var))
 dss_nil)
 dss_nil)
 dss_nil))
 (dss_frz 5 (dss_cons (ds_for hp rfl (di_enum hK rfl g_enumerate (de_var (i := 5) rfl (by first | exact .inl rfl | exact .inr (.inl rfl) | exact .inr (.inr rfl)))) (dg_tup hK rfl (dgs_cons (dg_name (i := 12) nd rfl (by first | exact .inl rfl | exact .inr rfl)) (dgs_cons (dg_name (i := 13) nd rfl (by first | exact .inl rfl | exact .inr rfl)) dgs_nil)))
 (dss_cons (ds_if (dt_cmp (dop_ge hK (hu64 hu)) (de_var (i := 13) rfl (by first | exact .inl rfl | exact .inr (.inl rfl) | exact .inr (.inr rfl))) (de_var (i := 0) rfl (by first | exact .inl rfl | exact .inr (.inl rfl) | exact .inr (.inr rfl))) (nomark _))
 (dss_cons (ds_asg (de_ixD hK (hu1 hu) (de_ixD hK (hu1 hu) (de_var (i := 3) rfl (by first | exact .inl rfl | exact .inr (.inl rfl) | exact .inr (.inr rfl))) (de_neg de_int) (fun _ _ => rfl)) (de_var (i := 12) rfl (by first | exact .inl rfl | exact .inr (.inl rfl) | exact .inr (.inr rfl))) (fun _ _ => rfl)) (dg_set (i := 11) rfl (by first | exact .inl rfl | exact .inr (.inl rfl) | exact .inr (.inr rfl)) (de_op dop_sub (de_var (i := 13) rfl (by first | exact .inl rfl | exact .inr (.inl rfl) | exact .inr (.inr rfl))) (de_var (i := 0) rfl (by first | exact .inl rfl | exact .inr (.inl rfl) | exact .inr (.inr rfl)))) (q_bin q_var q_var)))
 dss_nil)
 dss_nil)
 dss_nil))
 (dss_frz 10 (dss_frz 11 (dss_cons (ds_ret (de_tup (da_cons (de_var (i := 4) rfl (by first | exact .inl rfl | exact .inr (.inl rfl) | exact .inr (.inr rfl))) (da_cons (de_callTy (dc_tuple hK) rfl g_tuple bt_tuple (da_cons (de_var (i := 10) rfl (by first | exact .inl rfl | exact .inr (.inl rfl) | exact .inr (.inr rfl))) da_nil)) (da_cons (de_callTy (dc_tuple hK) rfl g_tuple bt_tuple (da_cons (de_var (i := 11) rfl (by first | exact .inl rfl | exact .inr (.inl rfl) | exact .inr (.inr rfl))) da_nil)) da_nil)))))
 dss_nil))))))))))))
def B_solved : SM :=
 (sSeq (sRet (eCall false F_solved_by [] (aCons (eBin ixW (eVar 0) (eC (.int 0))) (aCons (eFz (fComp (iS (eBin ixW (eVar 0) (eC (.int 2)))) (setFz 1) tYesM (eCall false F_fresh_of [] (aCons (eVar 1) aNil)) [1])) (aCons (eFz (fComp (iS (eBin ixW (eVar 0) (eC (.int 2)))) (setFz 1) tYesM (eBin ixW (eVar 1) (eC (.int 3))) [1])) aNil)))))
 sNext)
def F_solved : FM := runB 2 B_solved
abbrev N_solved : List Str := ["query", "fact"]
theorem sc_solved : FnScope N_solved ["query"] (defScope (top 29)) := ⟨rfl, rfl, rfl, by decide +kernel, rfl, by decide +kernel, by decide +kernel⟩
theorem ok_solved {P : Program} {w : World} {K : PySem.W.Frag} {mg : Str → Option Value} {base h : Heap} (KX : K.In h) (G : h.Ns mainGlobals mg) (c : He.SaysD fa fn K) (kt_SIZES : KTab K w (He.ga K "SIZES") tab_SIZES) : Has P w K mg base 4 "solved" ["query"] (callP K false F_solved 1) := by
  have h_fresh_of : Has P w K mg base _ _ _ _ := ok_fresh_of KX G c kt_SIZES
  have h_solved_by : Has P w K mg base _ _ _ _ := ok_solved_by KX G c kt_SIZES
  have nd := sc_solved.nd
  obtain ⟨fd, Fd⟩ := c.def_ 13 (d := d_solved) rfl
  refine ⟨fd, Fd.kp, FunD.bindsN Fd (fun _ _ _ _ _ _ us hl => match us, hl with | [_], _ => rfl), He.glo_ok KX G (c.fact 22 (f := .glo "solved") rfl), fn_ok Fd sc_solved fun cdv A outer s H E hr Wx tk D hK hst => ?_⟩
  have hu := DL.hu_of hr
  have hp : PassesOwn (model P w) (A.deeper (envOfC "solved" (defScope (top 29)) s.heap.objs.size (He.ga K "solved") cdv)) (envOfC "solved" (defScope (top 29)) s.heap.objs.size (He.ga K "solved") cdv) (cxOf (L2.CX P w) P w K mg base N_solved "solved" (defScope (top 29)) (He.ga K "solved") cdv A outer s H E).xe := passes_of (X := cxOf (L2.CX P w) P w K mg base N_solved "solved" (defScope (top 29)) (He.ga K "solved") cdv A outer s H E) rfl
  exact (dss_cons (ds_ret (de_fn h_solved_by (Room.mono hr (by decide)) rfl tk (da_cons (de_ixD hK (hu1 hu) (de_var (i := 0) rfl (by first | exact .inl rfl | exact .inr (.inl rfl) | exact .inr (.inr rfl))) de_int (fun _ _ => rfl)) (da_cons (de_fz (df_comp (own := [("fact", 1)]) hK rfl nd (di_seq hK (de_ixD hK (hu1 hu) (de_var (i := 0) rfl (by first | exact .inl rfl | exact .inr (.inl rfl) | exact .inr (.inr rfl))) de_int (fun _ _ => rfl))) (blkOk_by (by rfl)) (fun _ _ _ _ _ D hK hS => (dg_name (i := 1) nd rfl (by first | exact .inl rfl | exact .inr rfl))) (fun _ _ _ _ _ D hK hS => pts0) (fun _ _ _ _ _ D hK hS => (de_fn h_fresh_of (Room.mono hr (by decide)) rfl takes0 (da_cons (de_var (i := 1) rfl (by first | exact .inl rfl | exact .inr (.inl rfl) | exact .inr (.inr rfl))) da_nil) hK (fun h => Bool.noConfusion h) (lq_cons lq_nil))) q_yes (q_call (q_cons q_var q_nil)) (by decide))) (da_cons (de_fz (df_comp (own := [("fact", 1)]) hK rfl nd (di_seq hK (de_ixD hK (hu1 hu) (de_var (i := 0) rfl (by first | exact .inl rfl | exact .inr (.inl rfl) | exact .inr (.inr rfl))) de_int (fun _ _ => rfl))) (blkOk_by (by rfl)) (fun _ _ _ _ _ D hK hS => (dg_name (i := 1) nd rfl (by first | exact .inl rfl | exact .inr rfl))) (fun _ _ _ _ _ D hK hS => pts0) (fun _ _ _ _ _ D hK hS => (de_ixD hK (hu1 hu) (de_var (i := 1) rfl (by first | exact .inl rfl | exact .inr (.inl rfl) | exact .inr (.inr rfl))) de_int (fun _ _ => rfl))) q_yes (q_bin q_var q_c) (by decide))) da_nil))) hK (fun h => Bool.noConfusion h) (lq_cons (lq_cons (lq_cons lq_nil)))))
 dss_nil)
def B_best_in : SM :=
 (sSeq (sIf (tVal (eBin gNe (eCall false F_bare_in [] (aCons (eVar 0) aNil)) (eFz (fLst aNil))))
 (sSeq (sRet (eC .none))
 sNext)
 sNext)
 (sSeq (sAsg (eCall false F_solved [] (aCons (eVar 0) aNil)) (gTupW (gsCons (setFz 1) (gsCons (setFz 2) (gsCons (setFz 3) gsNil)))))
 (sSeq (sRet (eCall false F_lowered [] (aCons (eVar 1) (aCons (eVar 2) aNil))))
 sNext)))
def F_best_in : FM := runB 4 B_best_in
abbrev N_best_in : List Str := ["query", "bottom", "sizes", "hefts"]
theorem sc_best_in : FnScope N_best_in ["query"] (defScope (top 42)) := ⟨rfl, rfl, rfl, by decide +kernel, rfl, by decide +kernel, by decide +kernel⟩
theorem ok_best_in {P : Program} {w : World} {K : PySem.W.Frag} {mg : Str → Option Value} {base h : Heap} (KX : K.In h) (G : h.Ns mainGlobals mg) (c : He.SaysD fa fn K) (kt_SIZES : KTab K w (He.ga K "SIZES") tab_SIZES) : Has P w K mg base 5 "best_in" ["query"] (callP K false F_best_in 1) := by
  have h_bare_in : Has P w K mg base _ _ _ _ := ok_bare_in KX G c kt_SIZES
  have h_lowered : Has P w K mg base _ _ _ _ := ok_lowered KX G c kt_SIZES
  have h_solved : Has P w K mg base _ _ _ _ := ok_solved KX G c kt_SIZES
  have nd := sc_best_in.nd
  obtain ⟨fd, Fd⟩ := c.def_ 14 (d := d_best_in) rfl
  refine ⟨fd, Fd.kp, FunD.bindsN Fd (fun _ _ _ _ _ _ us hl => match us, hl with | [_], _ => rfl), He.glo_ok KX G (c.fact 23 (f := .glo "best_in") rfl), fn_ok Fd sc_best_in fun cdv A outer s H E hr Wx tk D hK hst => ?_⟩
  have hu := DL.hu_of hr
  have hp : PassesOwn (model P w) (A.deeper (envOfC "best_in" (defScope (top 42)) s.heap.objs.size (He.ga K "best_in") cdv)) (envOfC "best_in" (defScope (top 42)) s.heap.objs.size (He.ga K "best_in") cdv) (cxOf (L2.CX P w) P w K mg base N_best_in "best_in" (defScope (top 42)) (He.ga K "best_in") cdv A outer s H E).xe := passes_of (X := cxOf (L2.CX P w) P w K mg base N_best_in "best_in" (defScope (top 42)) (He.ga K "best_in") cdv A outer s H E) rfl
  exact (dss_cons (ds_if (dt_cmp (dop_ne hK (hu64 hu)) (de_fn h_bare_in (Room.mono hr (by decide)) rfl tk (da_cons (de_var (i := 0) rfl (by first | exact .inl rfl | exact .inr (.inl rfl) | exact .inr (.inr rfl))) da_nil) hK (fun h => Bool.noConfusion h) (lq_cons lq_nil)) (de_fz (df_lst da_nil)) (nomark _))
 (dss_cons (ds_ret de_non)
 dss_nil)
 dss_nil)
 (dss_cons (ds_asg (de_fn h_solved (Room.mono hr (by decide)) rfl tk (da_cons (de_var (i := 0) rfl (by first | exact .inl rfl | exact .inr (.inl rfl) | exact .inr (.inr rfl))) da_nil) hK (fun h => Bool.noConfusion h) (lq_cons lq_nil)) (dg_tup hK rfl (dgs_cons (dg_name (i := 1) nd rfl (by first | exact .inl rfl | exact .inr rfl)) (dgs_cons (dg_name (i := 2) nd rfl (by first | exact .inl rfl | exact .inr rfl)) (dgs_cons (dg_name (i := 3) nd rfl (by first | exact .inl rfl | exact .inr rfl)) dgs_nil)))))
 (dss_cons (ds_ret (de_fn h_lowered (Room.mono hr (by decide)) rfl tk (da_cons (de_var (i := 1) rfl (by first | exact .inl rfl | exact .inr (.inl rfl) | exact .inr (.inr rfl))) (da_cons (de_var (i := 2) rfl (by first | exact .inl rfl | exact .inr (.inl rfl) | exact .inr (.inr rfl))) da_nil)) hK (fun h => Bool.noConfusion h) (lq_cons (lq_cons lq_nil))))
 dss_nil)))
def B_is_integer : SM :=
 (sSeq (sRet (eAnd (eIsi "int" (eVar 0)) (eNot (eIsi "bool" (eVar 0)))))
 sNext)
def F_is_integer : FM := runB 1 B_is_integer
abbrev N_is_integer : List Str := ["thing"]
theorem sc_is_integer : FnScope N_is_integer ["thing"] (defScope (top 10)) := ⟨rfl, rfl, rfl, by decide +kernel, rfl, by decide +kernel, by decide +kernel⟩
theorem ok_is_integer {P : Program} {w : World} {K : PySem.W.Frag} {mg : Str → Option Value} {base h : Heap} (KX : K.In h) (G : h.Ns mainGlobals mg) (c : He.SaysD fa fn K) (kt_SIZES : KTab K w (He.ga K "SIZES") tab_SIZES) : Has P w K mg base 1 "is_integer" ["thing"] (callP K false F_is_integer 1) := by
  have g_bool := He.free_ok KX G (c.fact 26 (f := .free "bool") rfl)
  have g_int := He.free_ok KX G (c.fact 3 (f := .free "int") rfl)
  have g_isinstance := He.free_ok KX G (c.fact 25 (f := .free "isinstance") rfl)
  have nd := sc_is_integer.nd
  obtain ⟨fd, Fd⟩ := c.def_ 15 (d := d_is_integer) rfl
  refine ⟨fd, Fd.kp, FunD.bindsN Fd (fun _ _ _ _ _ _ us hl => match us, hl with | [_], _ => rfl), He.glo_ok KX G (c.fact 24 (f := .glo "is_integer") rfl), fn_ok Fd sc_is_integer fun cdv A outer s H E hr Wx tk D hK hst => ?_⟩
  have hu := DL.hu_of hr
  have hp : PassesOwn (model P w) (A.deeper (envOfC "is_integer" (defScope (top 10)) s.heap.objs.size (He.ga K "is_integer") cdv)) (envOfC "is_integer" (defScope (top 10)) s.heap.objs.size (He.ga K "is_integer") cdv) (cxOf (L2.CX P w) P w K mg base N_is_integer "is_integer" (defScope (top 10)) (He.ga K "is_integer") cdv A outer s H E).xe := passes_of (X := cxOf (L2.CX P w) P w K mg base N_is_integer "is_integer" (defScope (top 10)) (He.ga K "is_integer") cdv A outer s H E) rfl
  exact (dss_cons (ds_ret (de_and (de_isi (T := "int") hK rfl g_isinstance rfl g_int kit_int bt_int (by decide) (by decide) (de_var (i := 0) rfl (by first | exact .inl rfl | exact .inr (.inl rfl) | exact .inr (.inr rfl)))) (de_one (de_not (de_isi (T := "bool") hK rfl g_isinstance rfl g_bool kit_bool bt_bool (by decide) (by decide) (de_var (i := 0) rfl (by first | exact .inl rfl | exact .inr (.inl rfl) | exact .inr (.inr rfl))))))))
 dss_nil)
def B_is_between : SM :=
 (sSeq (sRet (eAnd (eCall false F_is_integer [] (aCons (eVar 0) aNil)) (eChain gLe gLe (eVar 1) (eVar 0) (eVar 2))))
 sNext)
def F_is_between : FM := runB 3 B_is_between
abbrev N_is_between : List Str := ["thing", "least", "most"]
theorem sc_is_between : FnScope N_is_between ["thing", "least", "most"] (defScope (top 11)) := ⟨rfl, rfl, rfl, by decide +kernel, rfl, by decide +kernel, by decide +kernel⟩
theorem ok_is_between {P : Program} {w : World} {K : PySem.W.Frag} {mg : Str → Option Value} {base h : Heap} (KX : K.In h) (G : h.Ns mainGlobals mg) (c : He.SaysD fa fn K) (kt_SIZES : KTab K w (He.ga K "SIZES") tab_SIZES) : Has P w K mg base 2 "is_between" ["thing", "least", "most"] (callP K false F_is_between 3) := by
  have h_is_integer : Has P w K mg base _ _ _ _ := ok_is_integer KX G c kt_SIZES
  have nd := sc_is_between.nd
  obtain ⟨fd, Fd⟩ := c.def_ 16 (d := d_is_between) rfl
  refine ⟨fd, Fd.kp, FunD.bindsN Fd (fun _ _ _ _ _ _ us hl => match us, hl with | [_, _, _], _ => rfl), He.glo_ok KX G (c.fact 27 (f := .glo "is_between") rfl), fn_ok Fd sc_is_between fun cdv A outer s H E hr Wx tk D hK hst => ?_⟩
  have hu := DL.hu_of hr
  have hp : PassesOwn (model P w) (A.deeper (envOfC "is_between" (defScope (top 11)) s.heap.objs.size (He.ga K "is_between") cdv)) (envOfC "is_between" (defScope (top 11)) s.heap.objs.size (He.ga K "is_between") cdv) (cxOf (L2.CX P w) P w K mg base N_is_between "is_between" (defScope (top 11)) (He.ga K "is_between") cdv A outer s H E).xe := passes_of (X := cxOf (L2.CX P w) P w K mg base N_is_between "is_between" (defScope (top 11)) (He.ga K "is_between") cdv A outer s H E) rfl
  exact (dss_cons (ds_ret (de_and (de_fn h_is_integer (Room.mono hr (by decide)) rfl tk (da_cons (de_var (i := 0) rfl (by first | exact .inl rfl | exact .inr (.inl rfl) | exact .inr (.inr rfl))) da_nil) hK (fun h => Bool.noConfusion h) (lq_cons lq_nil)) (de_one (de_chain (dop_le hK (hu64 hu)) (dop_le hK (hu64 hu)) (de_var (i := 1) rfl (by first | exact .inl rfl | exact .inr (.inl rfl) | exact .inr (.inr rfl))) (de_var (i := 0) rfl (by first | exact .inl rfl | exact .inr (.inl rfl) | exact .inr (.inr rfl))) (de_var (i := 2) rfl (by first | exact .inl rfl | exact .inr (.inl rfl) | exact .inr (.inr rfl)))))))
 dss_nil)
def B_is_rising : SM :=
 (sSeq (sRet (eOf gAll (aCons (eFz (fComp (iZp (eVar 0) (eCut (eVar 0) (oSome (eC (.int 1))) oNone)) (gTupW (gsCons (setFz 1) (gsCons (setFz 2) gsNil))) tYesM (eBin gLt (eVar 1) (eVar 2)) [1, 2])) aNil)))
 sNext)
def F_is_rising : FM := runB 3 B_is_rising
abbrev N_is_rising : List Str := ["some", "one", "other"]
theorem sc_is_rising : FnScope N_is_rising ["some"] (defScope (top 12)) := ⟨rfl, rfl, rfl, by decide +kernel, rfl, by decide +kernel, by decide +kernel⟩
theorem ok_is_rising {P : Program} {w : World} {K : PySem.W.Frag} {mg : Str → Option Value} {base h : Heap} (KX : K.In h) (G : h.Ns mainGlobals mg) (c : He.SaysD fa fn K) (kt_SIZES : KTab K w (He.ga K "SIZES") tab_SIZES) : Has P w K mg base 1 "is_rising" ["some"] (callP K false F_is_rising 1) := by
  have g_all := He.free_ok KX G (c.fact 29 (f := .free "all") rfl)
  have g_zip := He.free_ok KX G (c.fact 14 (f := .free "zip") rfl)
  have nd := sc_is_rising.nd
  obtain ⟨fd, Fd⟩ := c.def_ 17 (d := d_is_rising) rfl
  refine ⟨fd, Fd.kp, FunD.bindsN Fd (fun _ _ _ _ _ _ us hl => match us, hl with | [_], _ => rfl), He.glo_ok KX G (c.fact 28 (f := .glo "is_rising") rfl), fn_ok Fd sc_is_rising fun cdv A outer s H E hr Wx tk D hK hst => ?_⟩
  have hu := DL.hu_of hr
  have hp : PassesOwn (model P w) (A.deeper (envOfC "is_rising" (defScope (top 12)) s.heap.objs.size (He.ga K "is_rising") cdv)) (envOfC "is_rising" (defScope (top 12)) s.heap.objs.size (He.ga K "is_rising") cdv) (cxOf (L2.CX P w) P w K mg base N_is_rising "is_rising" (defScope (top 12)) (He.ga K "is_rising") cdv A outer s H E).xe := passes_of (X := cxOf (L2.CX P w) P w K mg base N_is_rising "is_rising" (defScope (top 12)) (He.ga K "is_rising") cdv A outer s H E) rfl
  exact (dss_cons (ds_ret (de_callB (dc_all hK rfl) rfl g_all bt_all (da_cons (de_fz (df_comp (own := [("one", 1), ("other", 2)]) hK rfl nd (di_zip hK rfl g_zip (de_var (i := 0) rfl (by first | exact .inl rfl | exact .inr (.inl rfl) | exact .inr (.inr rfl))) (de_cut hK (de_var (i := 0) rfl (by first | exact .inl rfl | exact .inr (.inl rfl) | exact .inr (.inr rfl))) (do_some de_int) do_none)) (blkOk_by (by rfl)) (fun _ _ _ _ _ D hK hS => (dg_tup hK rfl (dgs_cons (dg_name (i := 1) nd rfl (by first | exact .inl rfl | exact .inr rfl)) (dgs_cons (dg_name (i := 2) nd rfl (by first | exact .inl rfl | exact .inr rfl)) dgs_nil)))) (fun _ _ _ _ _ D hK hS => pts0) (fun _ _ _ _ _ D hK hS => (de_cmp (dop_lt hK (hu64 hu)) (de_var (i := 1) rfl (by first | exact .inl rfl | exact .inr (.inl rfl) | exact .inr (.inr rfl))) (de_var (i := 2) rfl (by first | exact .inl rfl | exact .inr (.inl rfl) | exact .inr (.inr rfl))) (nomark _))) q_yes (q_bin q_var q_var) (by decide))) da_nil)))
 dss_nil)
def B_is_lot : SM :=
 (sSeq (sIf (tOr (tNot (tVal (eIsi "tuple" (eVar 1)))) (tNot (tVal (eOf gAll (aCons (eFz (fComp (iS (eVar 1)) (setFz 2) tYesM (eCall false F_is_between [] (aCons (eVar 2) (aCons (eC (.int 0)) (aCons (eBin gSubI (eVar 0) (eC (.int 1))) aNil)))) [2])) aNil)))))
 (sSeq (sRet (eC (.bool false)))
 sNext)
 sNext)
 (sSeq (sRet (eCall false F_is_rising [] (aCons (eVar 1) aNil)))
 sNext))
def F_is_lot : FM := runB 3 B_is_lot
abbrev N_is_lot : List Str := ["columns", "thing", "one"]
theorem sc_is_lot : FnScope N_is_lot ["columns", "thing"] (defScope (top 13)) := ⟨rfl, rfl, rfl, by decide +kernel, rfl, by decide +kernel, by decide +kernel⟩
theorem ok_is_lot {P : Program} {w : World} {K : PySem.W.Frag} {mg : Str → Option Value} {base h : Heap} (KX : K.In h) (G : h.Ns mainGlobals mg) (c : He.SaysD fa fn K) (kt_SIZES : KTab K w (He.ga K "SIZES") tab_SIZES) : Has P w K mg base 3 "is_lot" ["columns", "thing"] (callP K false F_is_lot 2) := by
  have h_is_between : Has P w K mg base _ _ _ _ := ok_is_between KX G c kt_SIZES
  have h_is_rising : Has P w K mg base _ _ _ _ := ok_is_rising KX G c kt_SIZES
  have g_all := He.free_ok KX G (c.fact 29 (f := .free "all") rfl)
  have g_isinstance := He.free_ok KX G (c.fact 25 (f := .free "isinstance") rfl)
  have g_tuple := He.free_ok KX G (c.fact 7 (f := .free "tuple") rfl)
  have nd := sc_is_lot.nd
  obtain ⟨fd, Fd⟩ := c.def_ 18 (d := d_is_lot) rfl
  refine ⟨fd, Fd.kp, FunD.bindsN Fd (fun _ _ _ _ _ _ us hl => match us, hl with | [_, _], _ => rfl), He.glo_ok KX G (c.fact 30 (f := .glo "is_lot") rfl), fn_ok Fd sc_is_lot fun cdv A outer s H E hr Wx tk D hK hst => ?_⟩
  have hu := DL.hu_of hr
  have hp : PassesOwn (model P w) (A.deeper (envOfC "is_lot" (defScope (top 13)) s.heap.objs.size (He.ga K "is_lot") cdv)) (envOfC "is_lot" (defScope (top 13)) s.heap.objs.size (He.ga K "is_lot") cdv) (cxOf (L2.CX P w) P w K mg base N_is_lot "is_lot" (defScope (top 13)) (He.ga K "is_lot") cdv A outer s H E).xe := passes_of (X := cxOf (L2.CX P w) P w K mg base N_is_lot "is_lot" (defScope (top 13)) (He.ga K "is_lot") cdv A outer s H E) rfl
  exact (dss_cons (ds_if (DW.pt (dw_or (dt_not (dt_val (de_isi (T := "tuple") hK rfl g_isinstance rfl g_tuple kit_tuple bt_tuple (by decide) (by decide) (de_var (i := 1) rfl (by first | exact .inl rfl | exact .inr (.inl rfl) | exact .inr (.inr rfl)))))) (dw_or1 (dt_not (dt_val (de_callB (dc_all hK rfl) rfl g_all bt_all (da_cons (de_fz (df_comp (own := [("one", 2)]) hK rfl nd (di_seq hK (de_var (i := 1) rfl (by first | exact .inl rfl | exact .inr (.inl rfl) | exact .inr (.inr rfl)))) (blkOk_by (by rfl)) (fun _ _ _ _ _ D hK hS => (dg_name (i := 2) nd rfl (by first | exact .inl rfl | exact .inr rfl))) (fun _ _ _ _ _ D hK hS => pts0) (fun _ _ _ _ _ D hK hS => (de_fn h_is_between (Room.mono hr (by decide)) rfl takes0 (da_cons (de_var (i := 2) rfl (by first | exact .inl rfl | exact .inr (.inl rfl) | exact .inr (.inr rfl))) (da_cons de_int (da_cons (de_op dop_sub (de_var (i := 0) rfl (by first | exact .inl rfl | exact .inr (.inl rfl) | exact .inr (.inr rfl))) de_int) da_nil))) hK (fun h => Bool.noConfusion h) (lq_cons (lq_cons (lq_cons lq_nil))))) q_yes (q_call (q_cons q_var (q_cons q_c (q_cons (q_bin q_var q_c) q_nil)))) (by decide))) da_nil)))))))
 (dss_cons (ds_ret de_bl)
 dss_nil)
 dss_nil)
 (dss_cons (ds_ret (de_fn h_is_rising (Room.mono hr (by decide)) rfl tk (da_cons (de_var (i := 1) rfl (by first | exact .inl rfl | exact .inr (.inl rfl) | exact .inr (.inr rfl))) da_nil) hK (fun h => Bool.noConfusion h) (lq_cons lq_nil)))
 dss_nil))
def B_are_tables : SM :=
 (sSeq (sIf (tOr (tNot (tVal (eIsi "tuple" (eVar 1)))) (tNot (tVal (eChain gLe gLe (eC (.int 1)) (eOf gLen (aCons (eVar 1) aNil)) (eC (.int 8))))))
 (sSeq (sRet (eC (.bool false)))
 sNext)
 sNext)
 (sSeq (sIf (tNot (tVal (eOf gAll (aCons (eFz (fComp (iS (eVar 1)) (setFz 2) tYesM (eAnd (eCall false F_is_lot [] (aCons (eVar 0) (aCons (eVar 2) aNil))) (eBin gNe (eVar 2) (eTup aNil))) [2])) aNil))))
 (sSeq (sRet (eC (.bool false)))
 sNext)
 sNext)
 (sSeq (sRet (eCall false F_is_rising [] (aCons (eVar 1) aNil)))
 sNext)))
def F_are_tables : FM := runB 3 B_are_tables
abbrev N_are_tables : List Str := ["columns", "thing", "lot"]
theorem sc_are_tables : FnScope N_are_tables ["columns", "thing"] (defScope (top 15)) := ⟨rfl, rfl, rfl, by decide +kernel, rfl, by decide +kernel, by decide +kernel⟩
theorem ok_are_tables {P : Program} {w : World} {K : PySem.W.Frag} {mg : Str → Option Value} {base h : Heap} (KX : K.In h) (G : h.Ns mainGlobals mg) (c : He.SaysD fa fn K) (kt_SIZES : KTab K w (He.ga K "SIZES") tab_SIZES) : Has P w K mg base 4 "are_tables" ["columns", "thing"] (callP K false F_are_tables 2) := by
  have h_is_lot : Has P w K mg base _ _ _ _ := ok_is_lot KX G c kt_SIZES
  have h_is_rising : Has P w K mg base _ _ _ _ := ok_is_rising KX G c kt_SIZES
  have g_all := He.free_ok KX G (c.fact 29 (f := .free "all") rfl)
  have g_isinstance := He.free_ok KX G (c.fact 25 (f := .free "isinstance") rfl)
  have g_len := He.free_ok KX G (c.fact 5 (f := .free "len") rfl)
  have g_tuple := He.free_ok KX G (c.fact 7 (f := .free "tuple") rfl)
  obtain ⟨t_MOST_TABLES, c_MOST_TABLES⟩ := He.int_ok KX G (c.fact 32 (f := .int "MOST_TABLES" (8)) rfl)
  have nd := sc_are_tables.nd
  obtain ⟨fd, Fd⟩ := c.def_ 19 (d := d_are_tables) rfl
  refine ⟨fd, Fd.kp, FunD.bindsN Fd (fun _ _ _ _ _ _ us hl => match us, hl with | [_, _], _ => rfl), He.glo_ok KX G (c.fact 31 (f := .glo "are_tables") rfl), fn_ok Fd sc_are_tables fun cdv A outer s H E hr Wx tk D hK hst => ?_⟩
  have hu := DL.hu_of hr
  have hp : PassesOwn (model P w) (A.deeper (envOfC "are_tables" (defScope (top 15)) s.heap.objs.size (He.ga K "are_tables") cdv)) (envOfC "are_tables" (defScope (top 15)) s.heap.objs.size (He.ga K "are_tables") cdv) (cxOf (L2.CX P w) P w K mg base N_are_tables "are_tables" (defScope (top 15)) (He.ga K "are_tables") cdv A outer s H E).xe := passes_of (X := cxOf (L2.CX P w) P w K mg base N_are_tables "are_tables" (defScope (top 15)) (He.ga K "are_tables") cdv A outer s H E) rfl
  exact (dss_cons (ds_if (DW.pt (dw_or (dt_not (dt_val (de_isi (T := "tuple") hK rfl g_isinstance rfl g_tuple kit_tuple bt_tuple (by decide) (by decide) (de_var (i := 1) rfl (by first | exact .inl rfl | exact .inr (.inl rfl) | exact .inr (.inr rfl)))))) (dw_or1 (dt_not (dt_chain (dop_le hK (hu64 hu)) (dop_le hK (hu64 hu)) de_int (de_callB (dc_len hK) rfl g_len bt_len (da_cons (de_var (i := 1) rfl (by first | exact .inl rfl | exact .inr (.inl rfl) | exact .inr (.inr rfl))) da_nil)) (de_glob (v := V.int 8) rfl c_MOST_TABLES ⟨_, rfl⟩ (fun _ _ => rp_int)))))))
 (dss_cons (ds_ret de_bl)
 dss_nil)
 dss_nil)
 (dss_cons (ds_if (dt_not (dt_val (de_callB (dc_all hK rfl) rfl g_all bt_all (da_cons (de_fz (df_comp (own := [("lot", 2)]) hK rfl nd (di_seq hK (de_var (i := 1) rfl (by first | exact .inl rfl | exact .inr (.inl rfl) | exact .inr (.inr rfl)))) (blkOk_by (by rfl)) (fun _ _ _ _ _ D hK hS => (dg_name (i := 2) nd rfl (by first | exact .inl rfl | exact .inr rfl))) (fun _ _ _ _ _ D hK hS => pts0) (fun _ _ _ _ _ D hK hS => (de_and (de_fn h_is_lot (Room.mono hr (by decide)) rfl takes0 (da_cons (de_var (i := 0) rfl (by first | exact .inl rfl | exact .inr (.inl rfl) | exact .inr (.inr rfl))) (da_cons (de_var (i := 2) rfl (by first | exact .inl rfl | exact .inr (.inl rfl) | exact .inr (.inr rfl))) da_nil)) hK (fun h => Bool.noConfusion h) (lq_cons (lq_cons lq_nil))) (de_one (de_cmp (dop_ne hK (hu64 hu)) (de_var (i := 2) rfl (by first | exact .inl rfl | exact .inr (.inl rfl) | exact .inr (.inr rfl))) (de_tup da_nil) (nomark _))))) q_yes (q_and (q_call (q_cons q_var (q_cons q_var q_nil))) (q_bin q_var (q_tup q_nil))) (by decide))) da_nil))))
 (dss_cons (ds_ret de_bl)
 dss_nil)
 dss_nil)
 (dss_cons (ds_ret (de_fn h_is_rising (Room.mono hr (by decide)) rfl tk (da_cons (de_var (i := 1) rfl (by first | exact .inl rfl | exact .inr (.inl rfl) | exact .inr (.inr rfl))) da_nil) hK (fun h => Bool.noConfusion h) (lq_cons lq_nil)))
 dss_nil)))
def B_is_part_of : SM :=
 (sSeq (sRet (eOf gAll (aCons (eFz (fComp (iS (eVar 0)) (setFz 2) tYesM (eBin gInA (eVar 2) (eVar 1)) [2])) aNil)))
 sNext)
def F_is_part_of : FM := runB 3 B_is_part_of
abbrev N_is_part_of : List Str := ["one", "other", "thing"]
theorem sc_is_part_of : FnScope N_is_part_of ["one", "other"] (defScope (top 14)) := ⟨rfl, rfl, rfl, by decide +kernel, rfl, by decide +kernel, by decide +kernel⟩
theorem ok_is_part_of {P : Program} {w : World} {K : PySem.W.Frag} {mg : Str → Option Value} {base h : Heap} (KX : K.In h) (G : h.Ns mainGlobals mg) (c : He.SaysD fa fn K) (kt_SIZES : KTab K w (He.ga K "SIZES") tab_SIZES) : Has P w K mg base 1 "is_part_of" ["one", "other"] (callP K false F_is_part_of 2) := by
  have g_all := He.free_ok KX G (c.fact 29 (f := .free "all") rfl)
  have nd := sc_is_part_of.nd
  obtain ⟨fd, Fd⟩ := c.def_ 20 (d := d_is_part_of) rfl
  refine ⟨fd, Fd.kp, FunD.bindsN Fd (fun _ _ _ _ _ _ us hl => match us, hl with | [_, _], _ => rfl), He.glo_ok KX G (c.fact 33 (f := .glo "is_part_of") rfl), fn_ok Fd sc_is_part_of fun cdv A outer s H E hr Wx tk D hK hst => ?_⟩
  have hu := DL.hu_of hr
  have hp : PassesOwn (model P w) (A.deeper (envOfC "is_part_of" (defScope (top 14)) s.heap.objs.size (He.ga K "is_part_of") cdv)) (envOfC "is_part_of" (defScope (top 14)) s.heap.objs.size (He.ga K "is_part_of") cdv) (cxOf (L2.CX P w) P w K mg base N_is_part_of "is_part_of" (defScope (top 14)) (He.ga K "is_part_of") cdv A outer s H E).xe := passes_of (X := cxOf (L2.CX P w) P w K mg base N_is_part_of "is_part_of" (defScope (top 14)) (He.ga K "is_part_of") cdv A outer s H E) rfl
  exact (dss_cons (ds_ret (de_callB (dc_all hK rfl) rfl g_all bt_all (da_cons (de_fz (df_comp (own := [("thing", 2)]) hK rfl nd (di_seq hK (de_var (i := 0) rfl (by first | exact .inl rfl | exact .inr (.inl rfl) | exact .inr (.inr rfl)))) (blkOk_by (by rfl)) (fun _ _ _ _ _ D hK hS => (dg_name (i := 2) nd rfl (by first | exact .inl rfl | exact .inr rfl))) (fun _ _ _ _ _ D hK hS => pts0) (fun _ _ _ _ _ D hK hS => (de_cmp (dop_inA hK hu) (de_var (i := 2) rfl (by first | exact .inl rfl | exact .inr (.inl rfl) | exact .inr (.inr rfl))) (de_var (i := 1) rfl (by first | exact .inl rfl | exact .inr (.inl rfl) | exact .inr (.inr rfl))) (by with_unfolding_all rfl))) q_yes (q_bin q_var q_var) (by decide))) da_nil)))
 dss_nil)
def B_is_fact : SM :=
 (sSeq (sIf (tOr (tNot (tVal (eIsi "tuple" (eVar 2)))) (tOr (tVal (eBin gNe (eOf gLen (aCons (eVar 2) aNil)) (eC (.int 4)))) (tNot (tVal (eCall false F_is_between [] (aCons (eBin ixW (eVar 2) (eC (.int 0))) (aCons (eC (.int 0)) (aCons (eBin gSubI (eOf gLen (aCons (eVar 1) aNil)) (eC (.int 1))) aNil))))))))
 (sSeq (sRet (eC (.bool false)))
 sNext)
 sNext)
 (sSeq (sAsg (eVar 2) (gTupW (gsCons (setFz 3) (gsCons (setFz 4) (gsCons (setFz 5) (gsCons (setFz 6) gsNil))))))
 (sSeq (sIf (tOr (tNot (tVal (eCall false F_is_lot [] (aCons (eVar 0) (aCons (eVar 4) aNil))))) (tOr (tNot (tVal (eCall false F_is_lot [] (aCons (eVar 0) (aCons (eVar 5) aNil))))) (tNot (tVal (eCall false F_is_between [] (aCons (eVar 6) (aCons (eC (.int 0)) (aCons (eC (.int 60)) aNil))))))))
 (sSeq (sRet (eC (.bool false)))
 sNext)
 sNext)
 (sSeq (sRet (eAnd (eCall false F_is_part_of [] (aCons (eVar 5) (aCons (eBin ixW (eVar 1) (eVar 3)) aNil))) (eAnd (eCall false F_is_part_of [] (aCons (eVar 4) (aCons (eVar 5) aNil))) (eBin gNe (eVar 4) (eVar 5)))))
 sNext))))
def F_is_fact : FM := runB 7 B_is_fact
abbrev N_is_fact : List Str := ["columns", "tables", "thing", "table", "near", "far", "exponent"]
theorem sc_is_fact : FnScope N_is_fact ["columns", "tables", "thing"] (defScope (top 16)) := ⟨rfl, rfl, rfl, by decide +kernel, rfl, by decide +kernel, by decide +kernel⟩
theorem ok_is_fact {P : Program} {w : World} {K : PySem.W.Frag} {mg : Str → Option Value} {base h : Heap} (KX : K.In h) (G : h.Ns mainGlobals mg) (c : He.SaysD fa fn K) (kt_SIZES : KTab K w (He.ga K "SIZES") tab_SIZES) : Has P w K mg base 4 "is_fact" ["columns", "tables", "thing"] (callP K false F_is_fact 3) := by
  have h_is_between : Has P w K mg base _ _ _ _ := ok_is_between KX G c kt_SIZES
  have h_is_lot : Has P w K mg base _ _ _ _ := ok_is_lot KX G c kt_SIZES
  have h_is_part_of : Has P w K mg base _ _ _ _ := ok_is_part_of KX G c kt_SIZES
  have g_isinstance := He.free_ok KX G (c.fact 25 (f := .free "isinstance") rfl)
  have g_len := He.free_ok KX G (c.fact 5 (f := .free "len") rfl)
  have g_tuple := He.free_ok KX G (c.fact 7 (f := .free "tuple") rfl)
  obtain ⟨t_MOST_EXPONENT, c_MOST_EXPONENT⟩ := He.int_ok KX G (c.fact 35 (f := .int "MOST_EXPONENT" (60)) rfl)
  have nd := sc_is_fact.nd
  obtain ⟨fd, Fd⟩ := c.def_ 21 (d := d_is_fact) rfl
  refine ⟨fd, Fd.kp, FunD.bindsN Fd (fun _ _ _ _ _ _ us hl => match us, hl with | [_, _, _], _ => rfl), He.glo_ok KX G (c.fact 34 (f := .glo "is_fact") rfl), fn_ok Fd sc_is_fact fun cdv A outer s H E hr Wx tk D hK hst => ?_⟩
  have hu := DL.hu_of hr
  have hp : PassesOwn (model P w) (A.deeper (envOfC "is_fact" (defScope (top 16)) s.heap.objs.size (He.ga K "is_fact") cdv)) (envOfC "is_fact" (defScope (top 16)) s.heap.objs.size (He.ga K "is_fact") cdv) (cxOf (L2.CX P w) P w K mg base N_is_fact "is_fact" (defScope (top 16)) (He.ga K "is_fact") cdv A outer s H E).xe := passes_of (X := cxOf (L2.CX P w) P w K mg base N_is_fact "is_fact" (defScope (top 16)) (He.ga K "is_fact") cdv A outer s H E) rfl
  exact (dss_cons (ds_if (DW.pt (dw_or (dt_not (dt_val (de_isi (T := "tuple") hK rfl g_isinstance rfl g_tuple kit_tuple bt_tuple (by decide) (by decide) (de_var (i := 2) rfl (by first | exact .inl rfl | exact .inr (.inl rfl) | exact .inr (.inr rfl)))))) (dw_or (dt_cmp (dop_ne hK (hu64 hu)) (de_callB (dc_len hK) rfl g_len bt_len (da_cons (de_var (i := 2) rfl (by first | exact .inl rfl | exact .inr (.inl rfl) | exact .inr (.inr rfl))) da_nil)) de_int (nomark _)) (dw_or1 (dt_not (dt_val (de_fn h_is_between (Room.mono hr (by decide)) rfl tk (da_cons (de_ixD hK (hu1 hu) (de_var (i := 2) rfl (by first | exact .inl rfl | exact .inr (.inl rfl) | exact .inr (.inr rfl))) de_int (fun _ _ => rfl)) (da_cons de_int (da_cons (de_op dop_sub (de_callB (dc_len hK) rfl g_len bt_len (da_cons (de_var (i := 1) rfl (by first | exact .inl rfl | exact .inr (.inl rfl) | exact .inr (.inr rfl))) da_nil)) de_int) da_nil))) hK (fun h => Bool.noConfusion h) (lq_cons (lq_cons (lq_cons lq_nil))))))))))
 (dss_cons (ds_ret de_bl)
 dss_nil)
 dss_nil)
 (dss_cons (ds_asg (de_var (i := 2) rfl (by first | exact .inl rfl | exact .inr (.inl rfl) | exact .inr (.inr rfl))) (dg_tup hK rfl (dgs_cons (dg_name (i := 3) nd rfl (by first | exact .inl rfl | exact .inr rfl)) (dgs_cons (dg_name (i := 4) nd rfl (by first | exact .inl rfl | exact .inr rfl)) (dgs_cons (dg_name (i := 5) nd rfl (by first | exact .inl rfl | exact .inr rfl)) (dgs_cons (dg_name (i := 6) nd rfl (by first | exact .inl rfl | exact .inr rfl)) dgs_nil))))))
 (dss_cons (ds_if (DW.pt (dw_or (dt_not (dt_val (de_fn h_is_lot (Room.mono hr (by decide)) rfl tk (da_cons (de_var (i := 0) rfl (by first | exact .inl rfl | exact .inr (.inl rfl) | exact .inr (.inr rfl))) (da_cons (de_var (i := 4) rfl (by first | exact .inl rfl | exact .inr (.inl rfl) | exact .inr (.inr rfl))) da_nil)) hK (fun h => Bool.noConfusion h) (lq_cons (lq_cons lq_nil))))) (dw_or (dt_not (dt_val (de_fn h_is_lot (Room.mono hr (by decide)) rfl tk (da_cons (de_var (i := 0) rfl (by first | exact .inl rfl | exact .inr (.inl rfl) | exact .inr (.inr rfl))) (da_cons (de_var (i := 5) rfl (by first | exact .inl rfl | exact .inr (.inl rfl) | exact .inr (.inr rfl))) da_nil)) hK (fun h => Bool.noConfusion h) (lq_cons (lq_cons lq_nil))))) (dw_or1 (dt_not (dt_val (de_fn h_is_between (Room.mono hr (by decide)) rfl tk (da_cons (de_var (i := 6) rfl (by first | exact .inl rfl | exact .inr (.inl rfl) | exact .inr (.inr rfl))) (da_cons de_int (da_cons (de_glob (v := V.int 60) rfl c_MOST_EXPONENT ⟨_, rfl⟩ (fun _ _ => rp_int)) da_nil))) hK (fun h => Bool.noConfusion h) (lq_cons (lq_cons (lq_cons lq_nil))))))))))
 (dss_cons (ds_ret de_bl)
 dss_nil)
 dss_nil)
 (dss_cons (ds_ret (de_and (de_fn h_is_part_of (Room.mono hr (by decide)) rfl tk (da_cons (de_var (i := 5) rfl (by first | exact .inl rfl | exact .inr (.inl rfl) | exact .inr (.inr rfl))) (da_cons (de_ixD hK (hu1 hu) (de_var (i := 1) rfl (by first | exact .inl rfl | exact .inr (.inl rfl) | exact .inr (.inr rfl))) (de_var (i := 3) rfl (by first | exact .inl rfl | exact .inr (.inl rfl) | exact .inr (.inr rfl))) (fun _ _ => rfl)) da_nil)) hK (fun h => Bool.noConfusion h) (lq_cons (lq_cons lq_nil))) (de_and (de_fn h_is_part_of (Room.mono hr (by decide)) rfl tk (da_cons (de_var (i := 4) rfl (by first | exact .inl rfl | exact .inr (.inl rfl) | exact .inr (.inr rfl))) (da_cons (de_var (i := 5) rfl (by first | exact .inl rfl | exact .inr (.inl rfl) | exact .inr (.inr rfl))) da_nil)) hK (fun h => Bool.noConfusion h) (lq_cons (lq_cons lq_nil))) (de_one (de_cmp (dop_ne hK (hu64 hu)) (de_var (i := 4) rfl (by first | exact .inl rfl | exact .inr (.inl rfl) | exact .inr (.inr rfl))) (de_var (i := 5) rfl (by first | exact .inl rfl | exact .inr (.inl rfl) | exact .inr (.inr rfl))) (nomark _))))))
 dss_nil))))
def B_need_query : SM :=
 (sSeq (sIf (tOr (tNot (tVal (eIsi "tuple" (eVar 0)))) (tVal (eBin gNe (eOf gLen (aCons (eVar 0) aNil)) (eC (.int 3)))))
 (sSeq sBad
 sNext)
 sNext)
 (sSeq (sAsg (eVar 0) (gTupW (gsCons (setFz 1) (gsCons (setFz 2) (gsCons (setFz 3) gsNil)))))
 (sSeq (sIf (tNot (tVal (eCall false F_is_between [] (aCons (eVar 1) (aCons (eC (.int 1)) (aCons (eC (.int 7)) aNil))))))
 (sSeq sBad
 sNext)
 sNext)
 (sSeq (sIf (tNot (tVal (eCall false F_are_tables [] (aCons (eVar 1) (aCons (eVar 2) aNil)))))
 (sSeq sBad
 sNext)
 sNext)
 (sSeq (sIf (tNot (tVal (eOf gAll (aCons (eFz (fComp (iR1 (aCons (eVar 1) aNil)) (setFz 6) tYesM (eOf gAny (aCons (eFz (fComp (iS (eVar 2)) (setFz 7) tYesM (eBin gInA (eVar 6) (eVar 7)) [7])) aNil)) [6])) aNil))))
 (sSeq sBad
 sNext)
 sNext)
 (sSeq (sIf (tOr (tNot (tVal (eIsi "tuple" (eVar 3)))) (tVal (eBin gGt (eOf gLen (aCons (eVar 3) aNil)) (eC (.int 12)))))
 (sSeq sBad
 sNext)
 sNext)
 (sSeq (sFor (iEn (eVar 3)) (gTupW (gsCons (setFz 4) (gsCons (setFz 5) gsNil)))
 (sSeq (sIf (tOr (tNot (tVal (eCall false F_is_fact [] (aCons (eVar 1) (aCons (eVar 2) (aCons (eVar 5) aNil)))))) (tAnd (tVal (eBin gGt (eVar 4) (eC (.int 0)))) (tVal (eBin gGe (eBin ixW (eVar 3) (eBin gSubI (eVar 4) (eC (.int 1)))) (eVar 5)))))
 (sSeq sBad
 sNext)
 sNext)
 sNext))
 (sSeq (sRet (eVar 0))
 sNext))))))))
def F_need_query : FM := runB 8 B_need_query
abbrev N_need_query : List Str := ["thing", "columns", "tables", "facts", "number", "fact", "column", "lot"]
theorem sc_need_query : FnScope N_need_query ["thing"] (defScope (top 17)) := ⟨rfl, rfl, rfl, by decide +kernel, rfl, by decide +kernel, by decide +kernel⟩
theorem ok_need_query {P : Program} {w : World} {K : PySem.W.Frag} {mg : Str → Option Value} {base h : Heap} (KX : K.In h) (G : h.Ns mainGlobals mg) (c : He.SaysD fa fn K) (kt_SIZES : KTab K w (He.ga K "SIZES") tab_SIZES) : Has P w K mg base 5 "need_query" ["thing"] (callP K false F_need_query 1) := by
  have h_are_tables : Has P w K mg base _ _ _ _ := ok_are_tables KX G c kt_SIZES
  have h_is_between : Has P w K mg base _ _ _ _ := ok_is_between KX G c kt_SIZES
  have h_is_fact : Has P w K mg base _ _ _ _ := ok_is_fact KX G c kt_SIZES
  have g_all := He.free_ok KX G (c.fact 29 (f := .free "all") rfl)
  have g_any := He.free_ok KX G (c.fact 10 (f := .free "any") rfl)
  have g_enumerate := He.free_ok KX G (c.fact 16 (f := .free "enumerate") rfl)
  have g_isinstance := He.free_ok KX G (c.fact 25 (f := .free "isinstance") rfl)
  have g_len := He.free_ok KX G (c.fact 5 (f := .free "len") rfl)
  have g_range := He.free_ok KX G (c.fact 9 (f := .free "range") rfl)
  have g_tuple := He.free_ok KX G (c.fact 7 (f := .free "tuple") rfl)
  obtain ⟨t_MOST_COLUMNS, c_MOST_COLUMNS⟩ := He.int_ok KX G (c.fact 37 (f := .int "MOST_COLUMNS" (7)) rfl)
  obtain ⟨t_MOST_FACTS, c_MOST_FACTS⟩ := He.int_ok KX G (c.fact 38 (f := .int "MOST_FACTS" (12)) rfl)
  have nd := sc_need_query.nd
  obtain ⟨fd, Fd⟩ := c.def_ 22 (d := d_need_query) rfl
  refine ⟨fd, Fd.kp, FunD.bindsN Fd (fun _ _ _ _ _ _ us hl => match us, hl with | [_], _ => rfl), He.glo_ok KX G (c.fact 36 (f := .glo "need_query") rfl), fn_ok Fd sc_need_query fun cdv A outer s H E hr Wx tk D hK hst => ?_⟩
  have hu := DL.hu_of hr
  have hp : PassesOwn (model P w) (A.deeper (envOfC "need_query" (defScope (top 17)) s.heap.objs.size (He.ga K "need_query") cdv)) (envOfC "need_query" (defScope (top 17)) s.heap.objs.size (He.ga K "need_query") cdv) (cxOf (L2.CX P w) P w K mg base N_need_query "need_query" (defScope (top 17)) (He.ga K "need_query") cdv A outer s H E).xe := passes_of (X := cxOf (L2.CX P w) P w K mg base N_need_query "need_query" (defScope (top 17)) (He.ga K "need_query") cdv A outer s H E) rfl
  exact (dss_cons (ds_if (DW.pt (dw_or (dt_not (dt_val (de_isi (T := "tuple") hK rfl g_isinstance rfl g_tuple kit_tuple bt_tuple (by decide) (by decide) (de_var (i := 0) rfl (by first | exact .inl rfl | exact .inr (.inl rfl) | exact .inr (.inr rfl)))))) (dw_or1 (dt_cmp (dop_ne hK (hu64 hu)) (de_callB (dc_len hK) rfl g_len bt_len (da_cons (de_var (i := 0) rfl (by first | exact .inl rfl | exact .inr (.inl rfl) | exact .inr (.inr rfl))) da_nil)) de_int (nomark _)))))
 (dss_cons ds_bad
 dss_nil)
 dss_nil)
 (dss_cons (ds_asg (de_var (i := 0) rfl (by first | exact .inl rfl | exact .inr (.inl rfl) | exact .inr (.inr rfl))) (dg_tup hK rfl (dgs_cons (dg_name (i := 1) nd rfl (by first | exact .inl rfl | exact .inr rfl)) (dgs_cons (dg_name (i := 2) nd rfl (by first | exact .inl rfl | exact .inr rfl)) (dgs_cons (dg_name (i := 3) nd rfl (by first | exact .inl rfl | exact .inr rfl)) dgs_nil)))))
 (dss_cons (ds_if (dt_not (dt_val (de_fn h_is_between (Room.mono hr (by decide)) rfl tk (da_cons (de_var (i := 1) rfl (by first | exact .inl rfl | exact .inr (.inl rfl) | exact .inr (.inr rfl))) (da_cons de_int (da_cons (de_glob (v := V.int 7) rfl c_MOST_COLUMNS ⟨_, rfl⟩ (fun _ _ => rp_int)) da_nil))) hK (fun h => Bool.noConfusion h) (lq_cons (lq_cons (lq_cons lq_nil))))))
 (dss_cons ds_bad
 dss_nil)
 dss_nil)
 (dss_cons (ds_if (dt_not (dt_val (de_fn h_are_tables (Room.mono hr (by decide)) rfl tk (da_cons (de_var (i := 1) rfl (by first | exact .inl rfl | exact .inr (.inl rfl) | exact .inr (.inr rfl))) (da_cons (de_var (i := 2) rfl (by first | exact .inl rfl | exact .inr (.inl rfl) | exact .inr (.inr rfl))) da_nil)) hK (fun h => Bool.noConfusion h) (lq_cons (lq_cons lq_nil)))))
 (dss_cons ds_bad
 dss_nil)
 dss_nil)
 (dss_cons (ds_if (dt_not (dt_val (de_callB (dc_all hK rfl) rfl g_all bt_all (da_cons (de_fz (df_comp (own := [("column", 6)]) hK rfl nd (di_range1 rfl g_range (da_cons (de_var (i := 1) rfl (by first | exact .inl rfl | exact .inr (.inl rfl) | exact .inr (.inr rfl))) da_nil)) (blkOk_by (by rfl)) (fun _ _ _ _ _ D hK hS => (dg_name (i := 6) nd rfl (by first | exact .inl rfl | exact .inr rfl))) (fun _ _ _ _ _ D hK hS => pts0) (fun _ _ _ _ _ D hK hS => (de_callB (dc_any hK rfl) rfl g_any bt_any (da_cons (de_fz (df_comp (own := [("lot", 7)]) hK rfl nd (di_seq hK (de_var (i := 2) rfl (by first | exact .inl rfl | exact .inr (.inl rfl) | exact .inr (.inr rfl)))) (blkOk_by (by rfl)) (fun _ _ _ _ _ D hK hS => (dg_name (i := 7) nd rfl (by first | exact .inl rfl | exact .inr rfl))) (fun _ _ _ _ _ D hK hS => pts0) (fun _ _ _ _ _ D hK hS => (de_cmp (dop_inA hK hu) (de_var (i := 6) rfl (by first | exact .inl rfl | exact .inr (.inl rfl) | exact .inr (.inr rfl))) (de_var (i := 7) rfl (by first | exact .inl rfl | exact .inr (.inl rfl) | exact .inr (.inr rfl))) (by with_unfolding_all rfl))) q_yes (q_bin q_var q_var) (by decide))) da_nil))) q_yes (q_of (q_cons (q_fz (q_comp (q_il q_var))) q_nil)) (by decide))) da_nil))))
 (dss_cons ds_bad
 dss_nil)
 dss_nil)
 (dss_cons (ds_if (DW.pt (dw_or (dt_not (dt_val (de_isi (T := "tuple") hK rfl g_isinstance rfl g_tuple kit_tuple bt_tuple (by decide) (by decide) (de_var (i := 3) rfl (by first | exact .inl rfl | exact .inr (.inl rfl) | exact .inr (.inr rfl)))))) (dw_or1 (dt_cmp (dop_gt hK (hu64 hu)) (de_callB (dc_len hK) rfl g_len bt_len (da_cons (de_var (i := 3) rfl (by first | exact .inl rfl | exact .inr (.inl rfl) | exact .inr (.inr rfl))) da_nil)) (de_glob (v := V.int 12) rfl c_MOST_FACTS ⟨_, rfl⟩ (fun _ _ => rp_int)) (nomark _)))))
 (dss_cons ds_bad
 dss_nil)
 dss_nil)
 (dss_cons (ds_for hp rfl (di_enum hK rfl g_enumerate (de_var (i := 3) rfl (by first | exact .inl rfl | exact .inr (.inl rfl) | exact .inr (.inr rfl)))) (dg_tup hK rfl (dgs_cons (dg_name (i := 4) nd rfl (by first | exact .inl rfl | exact .inr rfl)) (dgs_cons (dg_name (i := 5) nd rfl (by first | exact .inl rfl | exact .inr rfl)) dgs_nil)))
 (dss_cons (ds_if (DW.pt (dw_or (dt_not (dt_val (de_fn h_is_fact (Room.mono hr (by decide)) rfl tk (da_cons (de_var (i := 1) rfl (by first | exact .inl rfl | exact .inr (.inl rfl) | exact .inr (.inr rfl))) (da_cons (de_var (i := 2) rfl (by first | exact .inl rfl | exact .inr (.inl rfl) | exact .inr (.inr rfl))) (da_cons (de_var (i := 5) rfl (by first | exact .inl rfl | exact .inr (.inl rfl) | exact .inr (.inr rfl))) da_nil))) hK (fun h => Bool.noConfusion h) (lq_cons (lq_cons (lq_cons lq_nil)))))) (dw_or1 (DW.pt (dw_and (dt_cmp (dop_gt hK (hu64 hu)) (de_var (i := 4) rfl (by first | exact .inl rfl | exact .inr (.inl rfl) | exact .inr (.inr rfl))) de_int (nomark _)) (dw_and1 (dt_cmp (dop_ge hK (hu64 hu)) (de_ixD hK (hu1 hu) (de_var (i := 3) rfl (by first | exact .inl rfl | exact .inr (.inl rfl) | exact .inr (.inr rfl))) (de_op dop_sub (de_var (i := 4) rfl (by first | exact .inl rfl | exact .inr (.inl rfl) | exact .inr (.inr rfl))) de_int) (fun _ _ => rfl)) (de_var (i := 5) rfl (by first | exact .inl rfl | exact .inr (.inl rfl) | exact .inr (.inr rfl))) (nomark _))))))))
 (dss_cons ds_bad
 dss_nil)
 dss_nil)
 dss_nil))
 (dss_cons (ds_ret (de_var (i := 0) rfl (by first | exact .inl rfl | exact .inr (.inl rfl) | exact .inr (.inr rfl))))
 dss_nil))))))))
def B_leads_of : SM :=
 (sSeq (sSet 1 (vOw (fLst aNil)))
 (sSeq (sFor (iR1 (aCons (eBin ixW (eVar 0) (eC (.int 0))) aNil)) (setFz 2)
 (sSeq (sSet 3 (vOd kNew))
 (sSeq (sFor (iS (eBin ixW (eVar 0) (eC (.int 2)))) (setFz 4)
 (sSeq (sIf (tVal (eBin gInA (eVar 2) (eBin ixW (eVar 4) (eC (.int 1)))))
 (sSeq (sDrop (eUpdF 3 (kComp (iS (eCall false F_fresh_of [] (aCons (eVar 4) aNil))) (setFz 5) tYesM (eVar 5) (eC (.bool true)) [5])))
 sNext)
 sNext)
 sNext))
 (sSeq (sFrz 3) (sSeq (sDrop (eOwn 1 (aCons (eOf gSortV (aCons (eOf gListV (aCons (eVar 3) aNil)) aNil)) aNil) gApp))
 sNext)))))
 (sSeq (sFrz 1) (sSeq (sRet (eVar 1))
 sNext))))
def F_leads_of : FM := runB 6 B_leads_of
abbrev N_leads_of : List Str := ["query", "found", "column", "some", "fact", "one"]
theorem sc_leads_of : FnScope N_leads_of ["query"] (defScope (top 19)) := ⟨rfl, rfl, rfl, by decide +kernel, rfl, by decide +kernel, by decide +kernel⟩
theorem ok_leads_of {P : Program} {w : World} {K : PySem.W.Frag} {mg : Str → Option Value} {base h : Heap} (KX : K.In h) (G : h.Ns mainGlobals mg) (c : He.SaysD fa fn K) (kt_SIZES : KTab K w (He.ga K "SIZES") tab_SIZES) : Has P w K mg base 2 "leads_of" ["query"] (callP K false F_leads_of 1) := by
  have h_fresh_of : Has P w K mg base _ _ _ _ := ok_fresh_of KX G c kt_SIZES
  have g_list := He.free_ok KX G (c.fact 1 (f := .free "list") rfl)
  have g_range := He.free_ok KX G (c.fact 9 (f := .free "range") rfl)
  have g_sorted := He.free_ok KX G (c.fact 40 (f := .free "sorted") rfl)
  have nd := sc_leads_of.nd
  obtain ⟨fd, Fd⟩ := c.def_ 23 (d := d_leads_of) rfl
  refine ⟨fd, Fd.kp, FunD.bindsN Fd (fun _ _ _ _ _ _ us hl => match us, hl with | [_], _ => rfl), He.glo_ok KX G (c.fact 39 (f := .glo "leads_of") rfl), fn_ok Fd sc_leads_of fun cdv A outer s H E hr Wx tk D hK hst => ?_⟩
  have hu := DL.hu_of hr
  have hp : PassesOwn (model P w) (A.deeper (envOfC "leads_of" (defScope (top 19)) s.heap.objs.size (He.ga K "leads_of") cdv)) (envOfC "leads_of" (defScope (top 19)) s.heap.objs.size (He.ga K "leads_of") cdv) (cxOf (L2.CX P w) P w K mg base N_leads_of "leads_of" (defScope (top 19)) (He.ga K "leads_of") cdv A outer s H E).xe := passes_of (X := cxOf (L2.CX P w) P w K mg base N_leads_of "leads_of" (defScope (top 19)) (He.ga K "leads_of") cdv A outer s H E) rfl
  exact (dss_cons (ds_set (i := 1) nd rfl (by first | exact .inl rfl | exact .inr rfl) (dv_ow (df_lst da_nil)))
 (dss_cons (ds_for hp rfl (di_range1 rfl g_range (da_cons (de_ixD hK (hu1 hu) (de_var (i := 0) rfl (by first | exact .inl rfl | exact .inr (.inl rfl) | exact .inr (.inr rfl))) de_int (fun _ _ => rfl)) da_nil)) (dg_name (i := 2) nd rfl (by first | exact .inl rfl | exact .inr rfl))
 (dss_cons (ds_set (i := 3) nd rfl (by first | exact .inl rfl | exact .inr rfl) (dv_od dd_new))
 (dss_cons (ds_for hp rfl (di_seq hK (de_ixD hK (hu1 hu) (de_var (i := 0) rfl (by first | exact .inl rfl | exact .inr (.inl rfl) | exact .inr (.inr rfl))) de_int (fun _ _ => rfl))) (dg_name (i := 4) nd rfl (by first | exact .inl rfl | exact .inr rfl))
 (dss_cons (ds_if (dt_cmp (dop_inA hK hu) (de_var (i := 2) rfl (by first | exact .inl rfl | exact .inr (.inl rfl) | exact .inr (.inr rfl))) (de_ixD hK (hu1 hu) (de_var (i := 4) rfl (by first | exact .inl rfl | exact .inr (.inl rfl) | exact .inr (.inr rfl))) de_int (fun _ _ => rfl)) (by with_unfolding_all rfl))
 (dss_cons (ds_expr (de_updF (i := 3) rfl (by first | exact .inl rfl | exact .inr (.inl rfl) | exact .inr (.inr rfl)) (dd_comp (own := [("one", 5)]) hK rfl nd (di_seq hK (de_fn h_fresh_of (Room.mono hr (by decide)) rfl tk (da_cons (de_var (i := 4) rfl (by first | exact .inl rfl | exact .inr (.inl rfl) | exact .inr (.inr rfl))) da_nil) hK (fun h => Bool.noConfusion h) (lq_cons lq_nil))) (blkOk_by (by rfl)) (fun _ _ _ _ _ D hK hS => (dg_name (i := 5) nd rfl (by first | exact .inl rfl | exact .inr rfl))) (fun _ _ _ _ _ D hK hS => pts0) (fun _ _ _ _ _ D hK hS => (de_var (i := 5) rfl (by first | exact .inl rfl | exact .inr (.inl rfl) | exact .inr (.inr rfl)))) (fun _ _ _ _ _ D hK hS => de_bl) q_yes q_var q_c (by decide))))
 dss_nil)
 dss_nil)
 dss_nil))
 (dss_frz 3 (dss_cons (ds_expr (de_own (i := 1) F.slot_list_append F.type_list_append down_app rfl (by first | exact .inl rfl | exact .inr (.inl rfl) | exact .inr (.inr rfl)) (da_cons (de_callB (dc_sortV hK rfl) rfl g_sorted bt_sorted (da_cons (de_callTy (dc_listV hK rfl) rfl g_list bt_list (da_cons (de_var (i := 3) rfl (by first | exact .inl rfl | exact .inr (.inl rfl) | exact .inr (.inr rfl))) da_nil)) da_nil)) da_nil)))
 dss_nil)))))
 (dss_frz 1 (dss_cons (ds_ret (de_var (i := 1) rfl (by first | exact .inl rfl | exact .inr (.inl rfl) | exact .inr (.inr rfl))))
 dss_nil))))
def B_ring_in : SM :=
 (sSeq (sSet 1 (vFz (eCall false F_leads_of [] (aCons (eVar 0) aNil))))
 (sSeq (sSet 2 (vOw (fComp (iR1 (aCons (eBin ixW (eVar 0) (eC (.int 0))) aNil)) (setFz 4) tYesM (eTup (aCons (eVar 4) aNil)) [4])))
 (sSeq (sFrz 2) (sSeq (sWhile fuel (tVal (eBin gNe (eVar 2) (eFz (fLst aNil))))
 (sSeq (sFor (iS (eVar 2)) (setFz 3)
 (sSeq (sIf (tVal (eBin gInA (eBin ixW (eVar 3) (eC (.int 0))) (eBin ixW (eVar 1) (eBin ixW (eVar 3) (eUn gNeg (eC (.int 1)))))))
 (sSeq (sRet (eVar 3))
 sNext)
 sNext)
 sNext))
 (sSeq (sSet 2 (vOw (fComp2 (iS (eVar 2)) (setFz 3) tYesM (iS (eBin ixW (eVar 1) (eBin ixW (eVar 3) (eUn gNeg (eC (.int 1)))))) (setFz 5) (tVal (eBin gNotInA (eVar 5) (eVar 3))) (eTup (aStar (eVar 3) (aCons (eVar 5) aNil))) [5] [3, 5])))
 (sSeq (sFrz 2) sNext))))
 (sSeq (sRet (eC .none))
 sNext)))))
def F_ring_in : FM := runB 6 B_ring_in
abbrev N_ring_in : List Str := ["query", "leads", "rows", "row", "column", "one"]
theorem sc_ring_in : FnScope N_ring_in ["query"] (defScope (top 20)) := ⟨rfl, rfl, rfl, by decide +kernel, rfl, by decide +kernel, by decide +kernel⟩
theorem ok_ring_in {P : Program} {w : World} {K : PySem.W.Frag} {mg : Str → Option Value} {base h : Heap} (KX : K.In h) (G : h.Ns mainGlobals mg) (c : He.SaysD fa fn K) (kt_SIZES : KTab K w (He.ga K "SIZES") tab_SIZES) : Has P w K mg base 3 "ring_in" ["query"] (callP K false F_ring_in 1) := by
  have h_leads_of : Has P w K mg base _ _ _ _ := ok_leads_of KX G c kt_SIZES
  have g_range := He.free_ok KX G (c.fact 9 (f := .free "range") rfl)
  have nd := sc_ring_in.nd
  obtain ⟨fd, Fd⟩ := c.def_ 24 (d := d_ring_in) rfl
  refine ⟨fd, Fd.kp, FunD.bindsN Fd (fun _ _ _ _ _ _ us hl => match us, hl with | [_], _ => rfl), He.glo_ok KX G (c.fact 41 (f := .glo "ring_in") rfl), fn_ok Fd sc_ring_in fun cdv A outer s H E hr Wx tk D hK hst => ?_⟩
  have hu := DL.hu_of hr
  have hp : PassesOwn (model P w) (A.deeper (envOfC "ring_in" (defScope (top 20)) s.heap.objs.size (He.ga K "ring_in") cdv)) (envOfC "ring_in" (defScope (top 20)) s.heap.objs.size (He.ga K "ring_in") cdv) (cxOf (L2.CX P w) P w K mg base N_ring_in "ring_in" (defScope (top 20)) (He.ga K "ring_in") cdv A outer s H E).xe := passes_of (X := cxOf (L2.CX P w) P w K mg base N_ring_in "ring_in" (defScope (top 20)) (He.ga K "ring_in") cdv A outer s H E) rfl
  exact (dss_cons (ds_set (i := 1) nd rfl (by first | exact .inl rfl | exact .inr rfl) (dv_fz (de_fn h_leads_of (Room.mono hr (by decide)) rfl tk (da_cons (de_var (i := 0) rfl (by first | exact .inl rfl | exact .inr (.inl rfl) | exact .inr (.inr rfl))) da_nil) hK (fun h => Bool.noConfusion h) (lq_cons lq_nil))))
 (dss_cons (ds_setLc (i := 2) (own := [("column", 4)]) hK rfl nd rfl rfl (sw_true rfl rfl rfl rfl) (di_range1 rfl g_range (da_cons (de_ixD hK (hu1 hu) (de_var (i := 0) rfl (by first | exact .inl rfl | exact .inr (.inl rfl) | exact .inr (.inr rfl))) de_int (fun _ _ => rfl)) da_nil)) (blkOk_by (by rfl)) (fun _ _ _ _ _ D hK hS => (dg_name (i := 4) nd rfl (by first | exact .inl rfl | exact .inr rfl))) (fun _ _ _ _ _ D hK hS => pts0) (fun _ _ _ _ _ D hK hS => (de_tup (da_cons (de_var (i := 4) rfl (by first | exact .inl rfl | exact .inr (.inl rfl) | exact .inr (.inr rfl))) da_nil))) q_yes (q_tup (q_cons q_var q_nil)) (by decide))
 (dss_frz 2 (dss_cons (ds_while hp (dt_cmp (dop_ne hK (hu64 hu)) (de_var (i := 2) rfl (by first | exact .inl rfl | exact .inr (.inl rfl) | exact .inr (.inr rfl))) (de_fz (df_lst da_nil)) (nomark _))
 (dss_cons (ds_for hp rfl (di_seq hK (de_var (i := 2) rfl (by first | exact .inl rfl | exact .inr (.inl rfl) | exact .inr (.inr rfl)))) (dg_name (i := 3) nd rfl (by first | exact .inl rfl | exact .inr rfl))
 (dss_cons (ds_if (dt_cmp (dop_inA hK hu) (de_ixD hK (hu1 hu) (de_var (i := 3) rfl (by first | exact .inl rfl | exact .inr (.inl rfl) | exact .inr (.inr rfl))) de_int (fun _ _ => rfl)) (de_ixD hK (hu1 hu) (de_var (i := 1) rfl (by first | exact .inl rfl | exact .inr (.inl rfl) | exact .inr (.inr rfl))) (de_ixD hK (hu1 hu) (de_var (i := 3) rfl (by first | exact .inl rfl | exact .inr (.inl rfl) | exact .inr (.inr rfl))) (de_neg de_int) (fun _ _ => rfl)) (fun _ _ => rfl)) (by with_unfolding_all rfl))
 (dss_cons (ds_ret (de_var (i := 3) rfl (by first | exact .inl rfl | exact .inr (.inl rfl) | exact .inr (.inr rfl))))
 dss_nil)
 dss_nil)
 dss_nil))
 (dss_cons (ds_setLc2 (i := 2) (own := [("row", 3), ("one", 5)]) (vs1 := [5]) hK rfl nd rfl rfl (sw_true rfl rfl rfl rfl) (di_seq hK (de_var (i := 2) rfl (by first | exact .inl rfl | exact .inr (.inl rfl) | exact .inr (.inr rfl)))) (blkOk_by (by rfl)) (fun _ _ _ _ _ D hK hS => (dg_name (i := 3) nd rfl (by first | exact .inl rfl | exact .inr rfl))) (fun _ _ _ _ _ D hK hS => pts0) (fun _ _ _ _ _ D hK hS => (di_seq hK (de_ixD hK (hu1 hu) (de_var (i := 1) rfl (by first | exact .inl rfl | exact .inr (.inl rfl) | exact .inr (.inr rfl))) (de_ixD hK (hu1 hu) (de_var (i := 3) rfl (by first | exact .inl rfl | exact .inr (.inl rfl) | exact .inr (.inr rfl))) (de_neg de_int) (fun _ _ => rfl)) (fun _ _ => rfl)))) (fun _ _ _ _ _ D hK hS => (dg_name (i := 5) nd rfl (by first | exact .inl rfl | exact .inr rfl))) (fun _ _ _ _ _ D hK hS => (pts1 (dt_cmp (dop_notinA hK hu) (de_var (i := 5) rfl (by first | exact .inl rfl | exact .inr (.inl rfl) | exact .inr (.inr rfl))) (de_var (i := 3) rfl (by first | exact .inl rfl | exact .inr (.inl rfl) | exact .inr (.inr rfl))) (by with_unfolding_all rfl)))) (fun _ _ _ _ _ D hK hS => (de_tup (da_star hK (de_var (i := 3) rfl (by first | exact .inl rfl | exact .inr (.inl rfl) | exact .inr (.inr rfl))) (da_cons (de_var (i := 5) rfl (by first | exact .inl rfl | exact .inr (.inl rfl) | exact .inr (.inr rfl))) da_nil)))) q_yes (q_il (q_bin q_var (q_bin q_var (q_un q_c)))) (q_val (q_bin q_var q_var)) (q_tup (q_star q_var (q_cons q_var q_nil))) (by decide) (by decide) (by decide))
 (dss_frz 2 dss_nil))))
 (dss_cons (ds_ret de_non)
 dss_nil)))))
def B_need_even : SM :=
 (sSeq (sSet 1 (vFz (eCall false F_ring_in [] (aCons (eCall false F_need_query [] (aCons (eVar 0) aNil)) aNil))))
 (sSeq (sIf (tVal (eBin gIsNot (eVar 1) (eC .none)))
 (sSeq sBad
 sNext)
 sNext)
 (sSeq (sRet (eVar 0))
 sNext)))
def F_need_even : FM := runB 2 B_need_even
abbrev N_need_even : List Str := ["query", "ring"]
theorem sc_need_even : FnScope N_need_even ["query"] (defScope (top 22)) := ⟨rfl, rfl, rfl, by decide +kernel, rfl, by decide +kernel, by decide +kernel⟩
theorem ok_need_even {P : Program} {w : World} {K : PySem.W.Frag} {mg : Str → Option Value} {base h : Heap} (KX : K.In h) (G : h.Ns mainGlobals mg) (c : He.SaysD fa fn K) (kt_SIZES : KTab K w (He.ga K "SIZES") tab_SIZES) : Has P w K mg base 6 "need_even" ["query"] (callP K false F_need_even 1) := by
  have h_need_query : Has P w K mg base _ _ _ _ := ok_need_query KX G c kt_SIZES
  have h_ring_in : Has P w K mg base _ _ _ _ := ok_ring_in KX G c kt_SIZES
  have nd := sc_need_even.nd
  obtain ⟨fd, Fd⟩ := c.def_ 25 (d := d_need_even) rfl
  refine ⟨fd, Fd.kp, FunD.bindsN Fd (fun _ _ _ _ _ _ us hl => match us, hl with | [_], _ => rfl), He.glo_ok KX G (c.fact 42 (f := .glo "need_even") rfl), fn_ok Fd sc_need_even fun cdv A outer s H E hr Wx tk D hK hst => ?_⟩
  have hu := DL.hu_of hr
  have hp : PassesOwn (model P w) (A.deeper (envOfC "need_even" (defScope (top 22)) s.heap.objs.size (He.ga K "need_even") cdv)) (envOfC "need_even" (defScope (top 22)) s.heap.objs.size (He.ga K "need_even") cdv) (cxOf (L2.CX P w) P w K mg base N_need_even "need_even" (defScope (top 22)) (He.ga K "need_even") cdv A outer s H E).xe := passes_of (X := cxOf (L2.CX P w) P w K mg base N_need_even "need_even" (defScope (top 22)) (He.ga K "need_even") cdv A outer s H E) rfl
  exact (dss_cons (ds_set (i := 1) nd rfl (by first | exact .inl rfl | exact .inr rfl) (dv_fz (de_fn h_ring_in (Room.mono hr (by decide)) rfl tk (da_cons (de_fn h_need_query (Room.mono hr (by decide)) rfl tk (da_cons (de_var (i := 0) rfl (by first | exact .inl rfl | exact .inr (.inl rfl) | exact .inr (.inr rfl))) da_nil) hK (fun h => Bool.noConfusion h) (lq_cons lq_nil)) da_nil) hK (fun h => Bool.noConfusion h) (lq_cons lq_nil))))
 (dss_cons (ds_if (dt_cmp dop_isnot (de_var (i := 1) rfl (by first | exact .inl rfl | exact .inr (.inl rfl) | exact .inr (.inr rfl))) de_non (nomark _))
 (dss_cons ds_bad
 dss_nil)
 dss_nil)
 (dss_cons (ds_ret (de_var (i := 0) rfl (by first | exact .inl rfl | exact .inr (.inl rfl) | exact .inr (.inr rfl))))
 dss_nil)))
def B_best_product : SM :=
 (sSeq (sRet (eCall false F_best_in [] (aCons (eCall false F_need_even [] (aCons (eVar 0) aNil)) aNil)))
 sNext)
def F_best_product : FM := runB 1 B_best_product
abbrev N_best_product : List Str := ["query"]
theorem sc_best_product : FnScope N_best_product ["query"] (defScope (top 43)) := ⟨rfl, rfl, rfl, by decide +kernel, rfl, by decide +kernel, by decide +kernel⟩
theorem ok_best_product {P : Program} {w : World} {K : PySem.W.Frag} {mg : Str → Option Value} {base h : Heap} (KX : K.In h) (G : h.Ns mainGlobals mg) (c : He.SaysD fa fn K) (kt_SIZES : KTab K w (He.ga K "SIZES") tab_SIZES) : Has P w K mg base 7 "best_product" ["query"] (callP K false F_best_product 1) := by
  have h_best_in : Has P w K mg base _ _ _ _ := ok_best_in KX G c kt_SIZES
  have h_need_even : Has P w K mg base _ _ _ _ := ok_need_even KX G c kt_SIZES
  have nd := sc_best_product.nd
  obtain ⟨fd, Fd⟩ := c.def_ 26 (d := d_best_product) rfl
  refine ⟨fd, Fd.kp, FunD.bindsN Fd (fun _ _ _ _ _ _ us hl => match us, hl with | [_], _ => rfl), He.glo_ok KX G (c.fact 43 (f := .glo "best_product") rfl), fn_ok Fd sc_best_product fun cdv A outer s H E hr Wx tk D hK hst => ?_⟩
  have hu := DL.hu_of hr
  have hp : PassesOwn (model P w) (A.deeper (envOfC "best_product" (defScope (top 43)) s.heap.objs.size (He.ga K "best_product") cdv)) (envOfC "best_product" (defScope (top 43)) s.heap.objs.size (He.ga K "best_product") cdv) (cxOf (L2.CX P w) P w K mg base N_best_product "best_product" (defScope (top 43)) (He.ga K "best_product") cdv A outer s H E).xe := passes_of (X := cxOf (L2.CX P w) P w K mg base N_best_product "best_product" (defScope (top 43)) (He.ga K "best_product") cdv A outer s H E) rfl
  exact (dss_cons (ds_ret (de_fn h_best_in (Room.mono hr (by decide)) rfl tk (da_cons (de_fn h_need_even (Room.mono hr (by decide)) rfl tk (da_cons (de_var (i := 0) rfl (by first | exact .inl rfl | exact .inr (.inl rfl) | exact .inr (.inr rfl))) da_nil) hK (fun h => Bool.noConfusion h) (lq_cons lq_nil)) da_nil) hK (fun h => Bool.noConfusion h) (lq_cons lq_nil)))
 dss_nil)
def B_least_in : SM :=
 (sSeq (sIf (tVal (eBin gNe (eCall false F_bare_in [] (aCons (eVar 0) aNil)) (eFz (fLst aNil))))
 (sSeq (sRet (eC .none))
 sNext)
 sNext)
 (sSeq (sAsg (eCall false F_solved [] (aCons (eVar 0) aNil)) (gTupW (gsCons (setFz 1) (gsCons (setFz 2) (gsCons (setFz 3) gsNil)))))
 (sSeq (sRet (eCall false F_lowered [] (aCons (eVar 1) (aCons (eVar 3) aNil))))
 sNext)))
def F_least_in : FM := runB 4 B_least_in
abbrev N_least_in : List Str := ["query", "bottom", "sizes", "hefts"]
theorem sc_least_in : FnScope N_least_in ["query"] (defScope (top 49)) := ⟨rfl, rfl, rfl, by decide +kernel, rfl, by decide +kernel, by decide +kernel⟩
theorem ok_least_in {P : Program} {w : World} {K : PySem.W.Frag} {mg : Str → Option Value} {base h : Heap} (KX : K.In h) (G : h.Ns mainGlobals mg) (c : He.SaysD fa fn K) (kt_SIZES : KTab K w (He.ga K "SIZES") tab_SIZES) : Has P w K mg base 5 "least_in" ["query"] (callP K false F_least_in 1) := by
  have h_bare_in : Has P w K mg base _ _ _ _ := ok_bare_in KX G c kt_SIZES
  have h_lowered : Has P w K mg base _ _ _ _ := ok_lowered KX G c kt_SIZES
  have h_solved : Has P w K mg base _ _ _ _ := ok_solved KX G c kt_SIZES
  have nd := sc_least_in.nd
  obtain ⟨fd, Fd⟩ := c.def_ 27 (d := d_least_in) rfl
  refine ⟨fd, Fd.kp, FunD.bindsN Fd (fun _ _ _ _ _ _ us hl => match us, hl with | [_], _ => rfl), He.glo_ok KX G (c.fact 44 (f := .glo "least_in") rfl), fn_ok Fd sc_least_in fun cdv A outer s H E hr Wx tk D hK hst => ?_⟩
  have hu := DL.hu_of hr
  have hp : PassesOwn (model P w) (A.deeper (envOfC "least_in" (defScope (top 49)) s.heap.objs.size (He.ga K "least_in") cdv)) (envOfC "least_in" (defScope (top 49)) s.heap.objs.size (He.ga K "least_in") cdv) (cxOf (L2.CX P w) P w K mg base N_least_in "least_in" (defScope (top 49)) (He.ga K "least_in") cdv A outer s H E).xe := passes_of (X := cxOf (L2.CX P w) P w K mg base N_least_in "least_in" (defScope (top 49)) (He.ga K "least_in") cdv A outer s H E) rfl
  exact (dss_cons (ds_if (dt_cmp (dop_ne hK (hu64 hu)) (de_fn h_bare_in (Room.mono hr (by decide)) rfl tk (da_cons (de_var (i := 0) rfl (by first | exact .inl rfl | exact .inr (.inl rfl) | exact .inr (.inr rfl))) da_nil) hK (fun h => Bool.noConfusion h) (lq_cons lq_nil)) (de_fz (df_lst da_nil)) (nomark _))
 (dss_cons (ds_ret de_non)
 dss_nil)
 dss_nil)
 (dss_cons (ds_asg (de_fn h_solved (Room.mono hr (by decide)) rfl tk (da_cons (de_var (i := 0) rfl (by first | exact .inl rfl | exact .inr (.inl rfl) | exact .inr (.inr rfl))) da_nil) hK (fun h => Bool.noConfusion h) (lq_cons lq_nil)) (dg_tup hK rfl (dgs_cons (dg_name (i := 1) nd rfl (by first | exact .inl rfl | exact .inr rfl)) (dgs_cons (dg_name (i := 2) nd rfl (by first | exact .inl rfl | exact .inr rfl)) (dgs_cons (dg_name (i := 3) nd rfl (by first | exact .inl rfl | exact .inr rfl)) dgs_nil)))))
 (dss_cons (ds_ret (de_fn h_lowered (Room.mono hr (by decide)) rfl tk (da_cons (de_var (i := 1) rfl (by first | exact .inl rfl | exact .inr (.inl rfl) | exact .inr (.inr rfl))) (da_cons (de_var (i := 3) rfl (by first | exact .inl rfl | exact .inr (.inl rfl) | exact .inr (.inr rfl))) da_nil)) hK (fun h => Bool.noConfusion h) (lq_cons (lq_cons lq_nil))))
 dss_nil)))
def B_best_weights : SM :=
 (sSeq (sRet (eCall false F_least_in [] (aCons (eCall false F_need_even [] (aCons (eVar 0) aNil)) aNil)))
 sNext)
def F_best_weights : FM := runB 1 B_best_weights
abbrev N_best_weights : List Str := ["query"]
theorem sc_best_weights : FnScope N_best_weights ["query"] (defScope (top 50)) := ⟨rfl, rfl, rfl, by decide +kernel, rfl, by decide +kernel, by decide +kernel⟩
theorem ok_best_weights {P : Program} {w : World} {K : PySem.W.Frag} {mg : Str → Option Value} {base h : Heap} (KX : K.In h) (G : h.Ns mainGlobals mg) (c : He.SaysD fa fn K) (kt_SIZES : KTab K w (He.ga K "SIZES") tab_SIZES) : Has P w K mg base 7 "best_weights" ["query"] (callP K false F_best_weights 1) := by
  have h_least_in : Has P w K mg base _ _ _ _ := ok_least_in KX G c kt_SIZES
  have h_need_even : Has P w K mg base _ _ _ _ := ok_need_even KX G c kt_SIZES
  have nd := sc_best_weights.nd
  obtain ⟨fd, Fd⟩ := c.def_ 28 (d := d_best_weights) rfl
  refine ⟨fd, Fd.kp, FunD.bindsN Fd (fun _ _ _ _ _ _ us hl => match us, hl with | [_], _ => rfl), He.glo_ok KX G (c.fact 45 (f := .glo "best_weights") rfl), fn_ok Fd sc_best_weights fun cdv A outer s H E hr Wx tk D hK hst => ?_⟩
  have hu := DL.hu_of hr
  have hp : PassesOwn (model P w) (A.deeper (envOfC "best_weights" (defScope (top 50)) s.heap.objs.size (He.ga K "best_weights") cdv)) (envOfC "best_weights" (defScope (top 50)) s.heap.objs.size (He.ga K "best_weights") cdv) (cxOf (L2.CX P w) P w K mg base N_best_weights "best_weights" (defScope (top 50)) (He.ga K "best_weights") cdv A outer s H E).xe := passes_of (X := cxOf (L2.CX P w) P w K mg base N_best_weights "best_weights" (defScope (top 50)) (He.ga K "best_weights") cdv A outer s H E) rfl
  exact (dss_cons (ds_ret (de_fn h_least_in (Room.mono hr (by decide)) rfl tk (da_cons (de_fn h_need_even (Room.mono hr (by decide)) rfl tk (da_cons (de_var (i := 0) rfl (by first | exact .inl rfl | exact .inr (.inl rfl) | exact .inr (.inr rfl))) da_nil) hK (fun h => Bool.noConfusion h) (lq_cons lq_nil)) da_nil) hK (fun h => Bool.noConfusion h) (lq_cons lq_nil)))
 dss_nil)
def B_lowest : SM :=
 (sSeq (sSet 2 (vFz (eCall false F_divisor_of [] (aCons (eFz (fLst (aCons (eVar 0) (aCons (eVar 1) aNil)))) aNil))))
 (sSeq (sRet (eTup (aCons (eBin gDivI (eVar 0) (eVar 2)) (aCons (eBin gDivI (eVar 1) (eVar 2)) aNil))))
 sNext))
def F_lowest : FM := runB 3 B_lowest
abbrev N_lowest : List Str := ["top", "bottom", "divisor"]
theorem sc_lowest : FnScope N_lowest ["top", "bottom"] (defScope (top 32)) := ⟨rfl, rfl, rfl, by decide +kernel, rfl, by decide +kernel, by decide +kernel⟩
theorem ok_lowest {P : Program} {w : World} {K : PySem.W.Frag} {mg : Str → Option Value} {base h : Heap} (KX : K.In h) (G : h.Ns mainGlobals mg) (c : He.SaysD fa fn K) (kt_SIZES : KTab K w (He.ga K "SIZES") tab_SIZES) : Has P w K mg base 2 "lowest" ["top", "bottom"] (callP K false F_lowest 2) := by
  have h_divisor_of : Has P w K mg base _ _ _ _ := ok_divisor_of KX G c kt_SIZES
  have nd := sc_lowest.nd
  obtain ⟨fd, Fd⟩ := c.def_ 29 (d := d_lowest) rfl
  refine ⟨fd, Fd.kp, FunD.bindsN Fd (fun _ _ _ _ _ _ us hl => match us, hl with | [_, _], _ => rfl), He.glo_ok KX G (c.fact 46 (f := .glo "lowest") rfl), fn_ok Fd sc_lowest fun cdv A outer s H E hr Wx tk D hK hst => ?_⟩
  have hu := DL.hu_of hr
  have hp : PassesOwn (model P w) (A.deeper (envOfC "lowest" (defScope (top 32)) s.heap.objs.size (He.ga K "lowest") cdv)) (envOfC "lowest" (defScope (top 32)) s.heap.objs.size (He.ga K "lowest") cdv) (cxOf (L2.CX P w) P w K mg base N_lowest "lowest" (defScope (top 32)) (He.ga K "lowest") cdv A outer s H E).xe := passes_of (X := cxOf (L2.CX P w) P w K mg base N_lowest "lowest" (defScope (top 32)) (He.ga K "lowest") cdv A outer s H E) rfl
  exact (dss_cons (ds_set (i := 2) nd rfl (by first | exact .inl rfl | exact .inr rfl) (dv_fz (de_fn h_divisor_of (Room.mono hr (by decide)) rfl tk (da_cons (de_fz (df_lst (da_cons (de_var (i := 0) rfl (by first | exact .inl rfl | exact .inr (.inl rfl) | exact .inr (.inr rfl))) (da_cons (de_var (i := 1) rfl (by first | exact .inl rfl | exact .inr (.inl rfl) | exact .inr (.inr rfl))) da_nil)))) da_nil) hK (fun h => Bool.noConfusion h) (lq_cons lq_nil))))
 (dss_cons (ds_ret (de_tup (da_cons (de_op dop_div (de_var (i := 0) rfl (by first | exact .inl rfl | exact .inr (.inl rfl) | exact .inr (.inr rfl))) (de_var (i := 2) rfl (by first | exact .inl rfl | exact .inr (.inl rfl) | exact .inr (.inr rfl)))) (da_cons (de_op dop_div (de_var (i := 1) rfl (by first | exact .inl rfl | exact .inr (.inl rfl) | exact .inr (.inr rfl))) (de_var (i := 2) rfl (by first | exact .inl rfl | exact .inr (.inl rfl) | exact .inr (.inr rfl)))) da_nil))))
 dss_nil))
def B_heft_in : SM :=
 (sSeq (sRet (eCall false F_lowest [] (aCons (eOf gSumA (aCons (eFz (fComp (iZp (eBin ixW (eVar 1) (eC (.int 1))) (eBin ixW (eVar 0) (eC (.int 2)))) (gTupW (gsCons (setFz 2) (gsCons (setFz 3) gsNil))) tYesM (eBin gTimes (eVar 2) (eBin ixW (eVar 3) (eC (.int 3)))) [2, 3])) aNil)) (aCons (eBin ixW (eVar 1) (eC (.int 0))) aNil))))
 sNext)
def F_heft_in : FM := runB 4 B_heft_in
abbrev N_heft_in : List Str := ["query", "weights", "heft", "fact"]
theorem sc_heft_in : FnScope N_heft_in ["query", "weights"] (defScope (top 48)) := ⟨rfl, rfl, rfl, by decide +kernel, rfl, by decide +kernel, by decide +kernel⟩
theorem ok_heft_in {P : Program} {w : World} {K : PySem.W.Frag} {mg : Str → Option Value} {base h : Heap} (KX : K.In h) (G : h.Ns mainGlobals mg) (c : He.SaysD fa fn K) (kt_SIZES : KTab K w (He.ga K "SIZES") tab_SIZES) : Has P w K mg base 3 "heft_in" ["query", "weights"] (callP K false F_heft_in 2) := by
  have h_lowest : Has P w K mg base _ _ _ _ := ok_lowest KX G c kt_SIZES
  have g_sum := He.free_ok KX G (c.fact 48 (f := .free "sum") rfl)
  have g_zip := He.free_ok KX G (c.fact 14 (f := .free "zip") rfl)
  have nd := sc_heft_in.nd
  obtain ⟨fd, Fd⟩ := c.def_ 30 (d := d_heft_in) rfl
  refine ⟨fd, Fd.kp, FunD.bindsN Fd (fun _ _ _ _ _ _ us hl => match us, hl with | [_, _], _ => rfl), He.glo_ok KX G (c.fact 47 (f := .glo "heft_in") rfl), fn_ok Fd sc_heft_in fun cdv A outer s H E hr Wx tk D hK hst => ?_⟩
  have hu := DL.hu_of hr
  have hp : PassesOwn (model P w) (A.deeper (envOfC "heft_in" (defScope (top 48)) s.heap.objs.size (He.ga K "heft_in") cdv)) (envOfC "heft_in" (defScope (top 48)) s.heap.objs.size (He.ga K "heft_in") cdv) (cxOf (L2.CX P w) P w K mg base N_heft_in "heft_in" (defScope (top 48)) (He.ga K "heft_in") cdv A outer s H E).xe := passes_of (X := cxOf (L2.CX P w) P w K mg base N_heft_in "heft_in" (defScope (top 48)) (He.ga K "heft_in") cdv A outer s H E) rfl
  exact (dss_cons (ds_ret (de_fn h_lowest (Room.mono hr (by decide)) rfl tk (da_cons (de_callB (dc_sumA hK rfl) rfl g_sum bt_sum (da_cons (de_fz (df_comp (own := [("heft", 2), ("fact", 3)]) hK rfl nd (di_zip hK rfl g_zip (de_ixD hK (hu1 hu) (de_var (i := 1) rfl (by first | exact .inl rfl | exact .inr (.inl rfl) | exact .inr (.inr rfl))) de_int (fun _ _ => rfl)) (de_ixD hK (hu1 hu) (de_var (i := 0) rfl (by first | exact .inl rfl | exact .inr (.inl rfl) | exact .inr (.inr rfl))) de_int (fun _ _ => rfl))) (blkOk_by (by rfl)) (fun _ _ _ _ _ D hK hS => (dg_tup hK rfl (dgs_cons (dg_name (i := 2) nd rfl (by first | exact .inl rfl | exact .inr rfl)) (dgs_cons (dg_name (i := 3) nd rfl (by first | exact .inl rfl | exact .inr rfl)) dgs_nil)))) (fun _ _ _ _ _ D hK hS => pts0) (fun _ _ _ _ _ D hK hS => (de_op (dop_times hK) (de_var (i := 2) rfl (by first | exact .inl rfl | exact .inr (.inl rfl) | exact .inr (.inr rfl))) (de_ixD hK (hu1 hu) (de_var (i := 3) rfl (by first | exact .inl rfl | exact .inr (.inl rfl) | exact .inr (.inr rfl))) de_int (fun _ _ => rfl)))) q_yes (q_bin q_var (q_bin q_var q_c)) (by decide))) da_nil)) (da_cons (de_ixD hK (hu1 hu) (de_var (i := 1) rfl (by first | exact .inl rfl | exact .inr (.inl rfl) | exact .inr (.inr rfl))) de_int (fun _ _ => rfl)) da_nil)) hK (fun h => Bool.noConfusion h) (lq_cons (lq_cons lq_nil))))
 dss_nil)
def B_are_counts : SM :=
 (sSeq (sIf (tOr (tNot (tVal (eCall false F_is_integer [] (aCons (eVar 0) aNil)))) (tOr (tVal (eBin gLt (eVar 0) (eC (.int 1)))) (tOr (tNot (tVal (eIsi "tuple" (eVar 1)))) (tVal (eBin gNe (eOf gLen (aCons (eVar 1) aNil)) (eVar 2))))))
 (sSeq (sRet (eC (.bool false)))
 sNext)
 sNext)
 (sSeq (sRet (eOf gAll (aCons (eFz (fComp (iS (eVar 1)) (setFz 3) tYesM (eAnd (eCall false F_is_integer [] (aCons (eVar 3) aNil)) (eBin gGe (eVar 3) (eC (.int 0)))) [3])) aNil)))
 sNext))
def F_are_counts : FM := runB 4 B_are_counts
abbrev N_are_counts : List Str := ["bottom", "thing", "many", "one"]
theorem sc_are_counts : FnScope N_are_counts ["bottom", "thing", "many"] (defScope (top 37)) := ⟨rfl, rfl, rfl, by decide +kernel, rfl, by decide +kernel, by decide +kernel⟩
theorem ok_are_counts {P : Program} {w : World} {K : PySem.W.Frag} {mg : Str → Option Value} {base h : Heap} (KX : K.In h) (G : h.Ns mainGlobals mg) (c : He.SaysD fa fn K) (kt_SIZES : KTab K w (He.ga K "SIZES") tab_SIZES) : Has P w K mg base 2 "are_counts" ["bottom", "thing", "many"] (callP K false F_are_counts 3) := by
  have h_is_integer : Has P w K mg base _ _ _ _ := ok_is_integer KX G c kt_SIZES
  have g_all := He.free_ok KX G (c.fact 29 (f := .free "all") rfl)
  have g_isinstance := He.free_ok KX G (c.fact 25 (f := .free "isinstance") rfl)
  have g_len := He.free_ok KX G (c.fact 5 (f := .free "len") rfl)
  have g_tuple := He.free_ok KX G (c.fact 7 (f := .free "tuple") rfl)
  have nd := sc_are_counts.nd
  obtain ⟨fd, Fd⟩ := c.def_ 31 (d := d_are_counts) rfl
  refine ⟨fd, Fd.kp, FunD.bindsN Fd (fun _ _ _ _ _ _ us hl => match us, hl with | [_, _, _], _ => rfl), He.glo_ok KX G (c.fact 49 (f := .glo "are_counts") rfl), fn_ok Fd sc_are_counts fun cdv A outer s H E hr Wx tk D hK hst => ?_⟩
  have hu := DL.hu_of hr
  have hp : PassesOwn (model P w) (A.deeper (envOfC "are_counts" (defScope (top 37)) s.heap.objs.size (He.ga K "are_counts") cdv)) (envOfC "are_counts" (defScope (top 37)) s.heap.objs.size (He.ga K "are_counts") cdv) (cxOf (L2.CX P w) P w K mg base N_are_counts "are_counts" (defScope (top 37)) (He.ga K "are_counts") cdv A outer s H E).xe := passes_of (X := cxOf (L2.CX P w) P w K mg base N_are_counts "are_counts" (defScope (top 37)) (He.ga K "are_counts") cdv A outer s H E) rfl
  exact (dss_cons (ds_if (DW.pt (dw_or (dt_not (dt_val (de_fn h_is_integer (Room.mono hr (by decide)) rfl tk (da_cons (de_var (i := 0) rfl (by first | exact .inl rfl | exact .inr (.inl rfl) | exact .inr (.inr rfl))) da_nil) hK (fun h => Bool.noConfusion h) (lq_cons lq_nil)))) (dw_or (dt_cmp (dop_lt hK (hu64 hu)) (de_var (i := 0) rfl (by first | exact .inl rfl | exact .inr (.inl rfl) | exact .inr (.inr rfl))) de_int (nomark _)) (dw_or (dt_not (dt_val (de_isi (T := "tuple") hK rfl g_isinstance rfl g_tuple kit_tuple bt_tuple (by decide) (by decide) (de_var (i := 1) rfl (by first | exact .inl rfl | exact .inr (.inl rfl) | exact .inr (.inr rfl)))))) (dw_or1 (dt_cmp (dop_ne hK (hu64 hu)) (de_callB (dc_len hK) rfl g_len bt_len (da_cons (de_var (i := 1) rfl (by first | exact .inl rfl | exact .inr (.inl rfl) | exact .inr (.inr rfl))) da_nil)) (de_var (i := 2) rfl (by first | exact .inl rfl | exact .inr (.inl rfl) | exact .inr (.inr rfl))) (nomark _)))))))
 (dss_cons (ds_ret de_bl)
 dss_nil)
 dss_nil)
 (dss_cons (ds_ret (de_callB (dc_all hK rfl) rfl g_all bt_all (da_cons (de_fz (df_comp (own := [("one", 3)]) hK rfl nd (di_seq hK (de_var (i := 1) rfl (by first | exact .inl rfl | exact .inr (.inl rfl) | exact .inr (.inr rfl)))) (blkOk_by (by rfl)) (fun _ _ _ _ _ D hK hS => (dg_name (i := 3) nd rfl (by first | exact .inl rfl | exact .inr rfl))) (fun _ _ _ _ _ D hK hS => pts0) (fun _ _ _ _ _ D hK hS => (de_and (de_fn h_is_integer (Room.mono hr (by decide)) rfl takes0 (da_cons (de_var (i := 3) rfl (by first | exact .inl rfl | exact .inr (.inl rfl) | exact .inr (.inr rfl))) da_nil) hK (fun h => Bool.noConfusion h) (lq_cons lq_nil)) (de_one (de_cmp (dop_ge hK (hu64 hu)) (de_var (i := 3) rfl (by first | exact .inl rfl | exact .inr (.inl rfl) | exact .inr (.inr rfl))) de_int (nomark _))))) q_yes (q_and (q_call (q_cons q_var q_nil)) (q_bin q_var q_c)) (by decide))) da_nil)))
 dss_nil))
def B_is_product_of : SM :=
 (sSeq (sIf (tOr (tNot (tVal (eIsi "tuple" (eVar 1)))) (tOr (tVal (eBin gNe (eOf gLen (aCons (eVar 1) aNil)) (eC (.int 2)))) (tNot (tVal (eCall false F_are_counts [] (aCons (eBin ixW (eVar 1) (eC (.int 0))) (aCons (eBin ixW (eVar 1) (eC (.int 1))) (aCons (eBin ixW (eVar 0) (eC (.int 0))) aNil))))))))
 (sSeq (sRet (eC (.bool false)))
 sNext)
 sNext)
 (sSeq (sAsg (eVar 1) (gTupW (gsCons (setFz 2) (gsCons (setFz 3) gsNil))))
 (sSeq (sRet (eOf gAll (aCons (eFz (fComp (iS (eBin ixW (eVar 0) (eC (.int 2)))) (setFz 4) tYesM (eBin gLe (eOf gSumA (aCons (eFz (fComp (iS (eCall false F_fresh_of [] (aCons (eVar 4) aNil))) (setFz 5) tYesM (eBin ixW (eVar 3) (eVar 5)) [5])) aNil)) (eBin gTimes (eVar 2) (eBin ixW (eVar 4) (eC (.int 3))))) [4])) aNil)))
 sNext)))
def F_is_product_of : FM := runB 6 B_is_product_of
abbrev N_is_product_of : List Str := ["query", "thing", "bottom", "sizes", "fact", "column"]
theorem sc_is_product_of : FnScope N_is_product_of ["query", "thing"] (defScope (top 38)) := ⟨rfl, rfl, rfl, by decide +kernel, rfl, by decide +kernel, by decide +kernel⟩
theorem ok_is_product_of {P : Program} {w : World} {K : PySem.W.Frag} {mg : Str → Option Value} {base h : Heap} (KX : K.In h) (G : h.Ns mainGlobals mg) (c : He.SaysD fa fn K) (kt_SIZES : KTab K w (He.ga K "SIZES") tab_SIZES) : Has P w K mg base 3 "is_product_of" ["query", "thing"] (callP K false F_is_product_of 2) := by
  have h_are_counts : Has P w K mg base _ _ _ _ := ok_are_counts KX G c kt_SIZES
  have h_fresh_of : Has P w K mg base _ _ _ _ := ok_fresh_of KX G c kt_SIZES
  have g_all := He.free_ok KX G (c.fact 29 (f := .free "all") rfl)
  have g_isinstance := He.free_ok KX G (c.fact 25 (f := .free "isinstance") rfl)
  have g_len := He.free_ok KX G (c.fact 5 (f := .free "len") rfl)
  have g_sum := He.free_ok KX G (c.fact 48 (f := .free "sum") rfl)
  have g_tuple := He.free_ok KX G (c.fact 7 (f := .free "tuple") rfl)
  have nd := sc_is_product_of.nd
  obtain ⟨fd, Fd⟩ := c.def_ 32 (d := d_is_product_of) rfl
  refine ⟨fd, Fd.kp, FunD.bindsN Fd (fun _ _ _ _ _ _ us hl => match us, hl with | [_, _], _ => rfl), He.glo_ok KX G (c.fact 50 (f := .glo "is_product_of") rfl), fn_ok Fd sc_is_product_of fun cdv A outer s H E hr Wx tk D hK hst => ?_⟩
  have hu := DL.hu_of hr
  have hp : PassesOwn (model P w) (A.deeper (envOfC "is_product_of" (defScope (top 38)) s.heap.objs.size (He.ga K "is_product_of") cdv)) (envOfC "is_product_of" (defScope (top 38)) s.heap.objs.size (He.ga K "is_product_of") cdv) (cxOf (L2.CX P w) P w K mg base N_is_product_of "is_product_of" (defScope (top 38)) (He.ga K "is_product_of") cdv A outer s H E).xe := passes_of (X := cxOf (L2.CX P w) P w K mg base N_is_product_of "is_product_of" (defScope (top 38)) (He.ga K "is_product_of") cdv A outer s H E) rfl
  exact (dss_cons (ds_if (DW.pt (dw_or (dt_not (dt_val (de_isi (T := "tuple") hK rfl g_isinstance rfl g_tuple kit_tuple bt_tuple (by decide) (by decide) (de_var (i := 1) rfl (by first | exact .inl rfl | exact .inr (.inl rfl) | exact .inr (.inr rfl)))))) (dw_or (dt_cmp (dop_ne hK (hu64 hu)) (de_callB (dc_len hK) rfl g_len bt_len (da_cons (de_var (i := 1) rfl (by first | exact .inl rfl | exact .inr (.inl rfl) | exact .inr (.inr rfl))) da_nil)) de_int (nomark _)) (dw_or1 (dt_not (dt_val (de_fn h_are_counts (Room.mono hr (by decide)) rfl tk (da_cons (de_ixD hK (hu1 hu) (de_var (i := 1) rfl (by first | exact .inl rfl | exact .inr (.inl rfl) | exact .inr (.inr rfl))) de_int (fun _ _ => rfl)) (da_cons (de_ixD hK (hu1 hu) (de_var (i := 1) rfl (by first | exact .inl rfl | exact .inr (.inl rfl) | exact .inr (.inr rfl))) de_int (fun _ _ => rfl)) (da_cons (de_ixD hK (hu1 hu) (de_var (i := 0) rfl (by first | exact .inl rfl | exact .inr (.inl rfl) | exact .inr (.inr rfl))) de_int (fun _ _ => rfl)) da_nil))) hK (fun h => Bool.noConfusion h) (lq_cons (lq_cons (lq_cons lq_nil))))))))))
 (dss_cons (ds_ret de_bl)
 dss_nil)
 dss_nil)
 (dss_cons (ds_asg (de_var (i := 1) rfl (by first | exact .inl rfl | exact .inr (.inl rfl) | exact .inr (.inr rfl))) (dg_tup hK rfl (dgs_cons (dg_name (i := 2) nd rfl (by first | exact .inl rfl | exact .inr rfl)) (dgs_cons (dg_name (i := 3) nd rfl (by first | exact .inl rfl | exact .inr rfl)) dgs_nil))))
 (dss_cons (ds_ret (de_callB (dc_all hK rfl) rfl g_all bt_all (da_cons (de_fz (df_comp (own := [("fact", 4)]) hK rfl nd (di_seq hK (de_ixD hK (hu1 hu) (de_var (i := 0) rfl (by first | exact .inl rfl | exact .inr (.inl rfl) | exact .inr (.inr rfl))) de_int (fun _ _ => rfl))) (blkOk_by (by rfl)) (fun _ _ _ _ _ D hK hS => (dg_name (i := 4) nd rfl (by first | exact .inl rfl | exact .inr rfl))) (fun _ _ _ _ _ D hK hS => pts0) (fun _ _ _ _ _ D hK hS => (de_cmp (dop_le hK (hu64 hu)) (de_callB (dc_sumA hK rfl) rfl g_sum bt_sum (da_cons (de_fz (df_comp (own := [("column", 5)]) hK rfl nd (di_seq hK (de_fn h_fresh_of (Room.mono hr (by decide)) rfl takes0 (da_cons (de_var (i := 4) rfl (by first | exact .inl rfl | exact .inr (.inl rfl) | exact .inr (.inr rfl))) da_nil) hK (fun h => Bool.noConfusion h) (lq_cons lq_nil))) (blkOk_by (by rfl)) (fun _ _ _ _ _ D hK hS => (dg_name (i := 5) nd rfl (by first | exact .inl rfl | exact .inr rfl))) (fun _ _ _ _ _ D hK hS => pts0) (fun _ _ _ _ _ D hK hS => (de_ixD hK (hu1 hu) (de_var (i := 3) rfl (by first | exact .inl rfl | exact .inr (.inl rfl) | exact .inr (.inr rfl))) (de_var (i := 5) rfl (by first | exact .inl rfl | exact .inr (.inl rfl) | exact .inr (.inr rfl))) (fun _ _ => rfl))) q_yes (q_bin q_var q_var) (by decide))) da_nil)) (de_op (dop_times hK) (de_var (i := 2) rfl (by first | exact .inl rfl | exact .inr (.inl rfl) | exact .inr (.inr rfl))) (de_ixD hK (hu1 hu) (de_var (i := 4) rfl (by first | exact .inl rfl | exact .inr (.inl rfl) | exact .inr (.inr rfl))) de_int (fun _ _ => rfl))) (nomark _))) q_yes (q_bin (q_of (q_cons (q_fz (q_comp (q_il (q_call (q_cons q_var q_nil))))) q_nil)) (q_bin q_var (q_bin q_var q_c))) (by decide))) da_nil)))
 dss_nil)))
def B_need_product : SM :=
 (sSeq (sIf (tNot (tVal (eCall false F_is_product_of [] (aCons (eVar 0) (aCons (eVar 1) aNil)))))
 (sSeq sBad
 sNext)
 sNext)
 sNext)
def F_need_product : FM := runB 2 B_need_product
abbrev N_need_product : List Str := ["query", "product"]
theorem sc_need_product : FnScope N_need_product ["query", "product"] (defScope (top 39)) := ⟨rfl, rfl, rfl, by decide +kernel, rfl, by decide +kernel, by decide +kernel⟩
theorem ok_need_product {P : Program} {w : World} {K : PySem.W.Frag} {mg : Str → Option Value} {base h : Heap} (KX : K.In h) (G : h.Ns mainGlobals mg) (c : He.SaysD fa fn K) (kt_SIZES : KTab K w (He.ga K "SIZES") tab_SIZES) : Has P w K mg base 4 "need_product" ["query", "product"] (callP K false F_need_product 2) := by
  have h_is_product_of : Has P w K mg base _ _ _ _ := ok_is_product_of KX G c kt_SIZES
  have nd := sc_need_product.nd
  obtain ⟨fd, Fd⟩ := c.def_ 33 (d := d_need_product) rfl
  refine ⟨fd, Fd.kp, FunD.bindsN Fd (fun _ _ _ _ _ _ us hl => match us, hl with | [_, _], _ => rfl), He.glo_ok KX G (c.fact 51 (f := .glo "need_product") rfl), fn_ok Fd sc_need_product fun cdv A outer s H E hr Wx tk D hK hst => ?_⟩
  have hu := DL.hu_of hr
  have hp : PassesOwn (model P w) (A.deeper (envOfC "need_product" (defScope (top 39)) s.heap.objs.size (He.ga K "need_product") cdv)) (envOfC "need_product" (defScope (top 39)) s.heap.objs.size (He.ga K "need_product") cdv) (cxOf (L2.CX P w) P w K mg base N_need_product "need_product" (defScope (top 39)) (He.ga K "need_product") cdv A outer s H E).xe := passes_of (X := cxOf (L2.CX P w) P w K mg base N_need_product "need_product" (defScope (top 39)) (He.ga K "need_product") cdv A outer s H E) rfl
  exact (dss_cons (ds_if (dt_not (dt_val (de_fn h_is_product_of (Room.mono hr (by decide)) rfl tk (da_cons (de_var (i := 0) rfl (by first | exact .inl rfl | exact .inr (.inl rfl) | exact .inr (.inr rfl))) (da_cons (de_var (i := 1) rfl (by first | exact .inl rfl | exact .inr (.inl rfl) | exact .inr (.inr rfl))) da_nil)) hK (fun h => Bool.noConfusion h) (lq_cons (lq_cons lq_nil)))))
 (dss_cons ds_bad
 dss_nil)
 dss_nil)
 dss_nil)
def B_are_weights_of : SM :=
 (sSeq (sIf (tOr (tNot (tVal (eIsi "tuple" (eVar 1)))) (tOr (tVal (eBin gNe (eOf gLen (aCons (eVar 1) aNil)) (eC (.int 2)))) (tNot (tVal (eCall false F_are_counts [] (aCons (eBin ixW (eVar 1) (eC (.int 0))) (aCons (eBin ixW (eVar 1) (eC (.int 1))) (aCons (eOf gLen (aCons (eBin ixW (eVar 0) (eC (.int 2))) aNil)) aNil))))))))
 (sSeq (sRet (eC (.bool false)))
 sNext)
 sNext)
 (sSeq (sAsg (eVar 1) (gTupW (gsCons (setFz 2) (gsCons (setFz 3) gsNil))))
 (sSeq (sFor (iR1 (aCons (eBin ixW (eVar 0) (eC (.int 0))) aNil)) (setFz 4)
 (sSeq (sIf (tVal (eBin gLt (eOf gSumA (aCons (eFz (fComp (iZp (eVar 3) (eBin ixW (eVar 0) (eC (.int 2)))) (gTupW (gsCons (setFz 5) (gsCons (setFz 6) gsNil))) (tVal (eBin gInA (eVar 4) (eCall false F_fresh_of [] (aCons (eVar 6) aNil)))) (eVar 5) [5, 6])) aNil)) (eVar 2)))
 (sSeq (sRet (eC (.bool false)))
 sNext)
 sNext)
 sNext))
 (sSeq (sRet (eC (.bool true)))
 sNext))))
def F_are_weights_of : FM := runB 7 B_are_weights_of
abbrev N_are_weights_of : List Str := ["query", "thing", "bottom", "hefts", "column", "heft", "fact"]
theorem sc_are_weights_of : FnScope N_are_weights_of ["query", "thing"] (defScope (top 46)) := ⟨rfl, rfl, rfl, by decide +kernel, rfl, by decide +kernel, by decide +kernel⟩
theorem ok_are_weights_of {P : Program} {w : World} {K : PySem.W.Frag} {mg : Str → Option Value} {base h : Heap} (KX : K.In h) (G : h.Ns mainGlobals mg) (c : He.SaysD fa fn K) (kt_SIZES : KTab K w (He.ga K "SIZES") tab_SIZES) : Has P w K mg base 3 "are_weights_of" ["query", "thing"] (callP K false F_are_weights_of 2) := by
  have h_are_counts : Has P w K mg base _ _ _ _ := ok_are_counts KX G c kt_SIZES
  have h_fresh_of : Has P w K mg base _ _ _ _ := ok_fresh_of KX G c kt_SIZES
  have g_isinstance := He.free_ok KX G (c.fact 25 (f := .free "isinstance") rfl)
  have g_len := He.free_ok KX G (c.fact 5 (f := .free "len") rfl)
  have g_range := He.free_ok KX G (c.fact 9 (f := .free "range") rfl)
  have g_sum := He.free_ok KX G (c.fact 48 (f := .free "sum") rfl)
  have g_tuple := He.free_ok KX G (c.fact 7 (f := .free "tuple") rfl)
  have g_zip := He.free_ok KX G (c.fact 14 (f := .free "zip") rfl)
  have nd := sc_are_weights_of.nd
  obtain ⟨fd, Fd⟩ := c.def_ 34 (d := d_are_weights_of) rfl
  refine ⟨fd, Fd.kp, FunD.bindsN Fd (fun _ _ _ _ _ _ us hl => match us, hl with | [_, _], _ => rfl), He.glo_ok KX G (c.fact 52 (f := .glo "are_weights_of") rfl), fn_ok Fd sc_are_weights_of fun cdv A outer s H E hr Wx tk D hK hst => ?_⟩
  have hu := DL.hu_of hr
  have hp : PassesOwn (model P w) (A.deeper (envOfC "are_weights_of" (defScope (top 46)) s.heap.objs.size (He.ga K "are_weights_of") cdv)) (envOfC "are_weights_of" (defScope (top 46)) s.heap.objs.size (He.ga K "are_weights_of") cdv) (cxOf (L2.CX P w) P w K mg base N_are_weights_of "are_weights_of" (defScope (top 46)) (He.ga K "are_weights_of") cdv A outer s H E).xe := passes_of (X := cxOf (L2.CX P w) P w K mg base N_are_weights_of "are_weights_of" (defScope (top 46)) (He.ga K "are_weights_of") cdv A outer s H E) rfl
  exact (dss_cons (ds_if (DW.pt (dw_or (dt_not (dt_val (de_isi (T := "tuple") hK rfl g_isinstance rfl g_tuple kit_tuple bt_tuple (by decide) (by decide) (de_var (i := 1) rfl (by first | exact .inl rfl | exact .inr (.inl rfl) | exact .inr (.inr rfl)))))) (dw_or (dt_cmp (dop_ne hK (hu64 hu)) (de_callB (dc_len hK) rfl g_len bt_len (da_cons (de_var (i := 1) rfl (by first | exact .inl rfl | exact .inr (.inl rfl) | exact .inr (.inr rfl))) da_nil)) de_int (nomark _)) (dw_or1 (dt_not (dt_val (de_fn h_are_counts (Room.mono hr (by decide)) rfl tk (da_cons (de_ixD hK (hu1 hu) (de_var (i := 1) rfl (by first | exact .inl rfl | exact .inr (.inl rfl) | exact .inr (.inr rfl))) de_int (fun _ _ => rfl)) (da_cons (de_ixD hK (hu1 hu) (de_var (i := 1) rfl (by first | exact .inl rfl | exact .inr (.inl rfl) | exact .inr (.inr rfl))) de_int (fun _ _ => rfl)) (da_cons (de_callB (dc_len hK) rfl g_len bt_len (da_cons (de_ixD hK (hu1 hu) (de_var (i := 0) rfl (by first | exact .inl rfl | exact .inr (.inl rfl) | exact .inr (.inr rfl))) de_int (fun _ _ => rfl)) da_nil)) da_nil))) hK (fun h => Bool.noConfusion h) (lq_cons (lq_cons (lq_cons lq_nil))))))))))
 (dss_cons (ds_ret de_bl)
 dss_nil)
 dss_nil)
 (dss_cons (ds_asg (de_var (i := 1) rfl (by first | exact .inl rfl | exact .inr (.inl rfl) | exact .inr (.inr rfl))) (dg_tup hK rfl (dgs_cons (dg_name (i := 2) nd rfl (by first | exact .inl rfl | exact .inr rfl)) (dgs_cons (dg_name (i := 3) nd rfl (by first | exact .inl rfl | exact .inr rfl)) dgs_nil))))
 (dss_cons (ds_for hp rfl (di_range1 rfl g_range (da_cons (de_ixD hK (hu1 hu) (de_var (i := 0) rfl (by first | exact .inl rfl | exact .inr (.inl rfl) | exact .inr (.inr rfl))) de_int (fun _ _ => rfl)) da_nil)) (dg_name (i := 4) nd rfl (by first | exact .inl rfl | exact .inr rfl))
 (dss_cons (ds_if (dt_cmp (dop_lt hK (hu64 hu)) (de_callB (dc_sumA hK rfl) rfl g_sum bt_sum (da_cons (de_fz (df_comp (own := [("heft", 5), ("fact", 6)]) hK rfl nd (di_zip hK rfl g_zip (de_var (i := 3) rfl (by first | exact .inl rfl | exact .inr (.inl rfl) | exact .inr (.inr rfl))) (de_ixD hK (hu1 hu) (de_var (i := 0) rfl (by first | exact .inl rfl | exact .inr (.inl rfl) | exact .inr (.inr rfl))) de_int (fun _ _ => rfl))) (blkOk_by (by rfl)) (fun _ _ _ _ _ D hK hS => (dg_tup hK rfl (dgs_cons (dg_name (i := 5) nd rfl (by first | exact .inl rfl | exact .inr rfl)) (dgs_cons (dg_name (i := 6) nd rfl (by first | exact .inl rfl | exact .inr rfl)) dgs_nil)))) (fun _ _ _ _ _ D hK hS => (pts1 (dt_cmp (dop_inA hK hu) (de_var (i := 4) rfl (by first | exact .inl rfl | exact .inr (.inl rfl) | exact .inr (.inr rfl))) (de_fn h_fresh_of (Room.mono hr (by decide)) rfl takes0 (da_cons (de_var (i := 6) rfl (by first | exact .inl rfl | exact .inr (.inl rfl) | exact .inr (.inr rfl))) da_nil) hK (fun h => Bool.noConfusion h) (lq_cons lq_nil)) (by with_unfolding_all rfl)))) (fun _ _ _ _ _ D hK hS => (de_var (i := 5) rfl (by first | exact .inl rfl | exact .inr (.inl rfl) | exact .inr (.inr rfl)))) (q_val (q_bin q_var (q_call (q_cons q_var q_nil)))) q_var (by decide))) da_nil)) (de_var (i := 2) rfl (by first | exact .inl rfl | exact .inr (.inl rfl) | exact .inr (.inr rfl))) (nomark _))
 (dss_cons (ds_ret de_bl)
 dss_nil)
 dss_nil)
 dss_nil))
 (dss_cons (ds_ret de_bl)
 dss_nil))))
def B_need_weights : SM :=
 (sSeq (sIf (tNot (tVal (eCall false F_are_weights_of [] (aCons (eVar 0) (aCons (eVar 1) aNil)))))
 (sSeq sBad
 sNext)
 sNext)
 sNext)
def F_need_weights : FM := runB 2 B_need_weights
abbrev N_need_weights : List Str := ["query", "weights"]
theorem sc_need_weights : FnScope N_need_weights ["query", "weights"] (defScope (top 47)) := ⟨rfl, rfl, rfl, by decide +kernel, rfl, by decide +kernel, by decide +kernel⟩
theorem ok_need_weights {P : Program} {w : World} {K : PySem.W.Frag} {mg : Str → Option Value} {base h : Heap} (KX : K.In h) (G : h.Ns mainGlobals mg) (c : He.SaysD fa fn K) (kt_SIZES : KTab K w (He.ga K "SIZES") tab_SIZES) : Has P w K mg base 4 "need_weights" ["query", "weights"] (callP K false F_need_weights 2) := by
  have h_are_weights_of : Has P w K mg base _ _ _ _ := ok_are_weights_of KX G c kt_SIZES
  have nd := sc_need_weights.nd
  obtain ⟨fd, Fd⟩ := c.def_ 35 (d := d_need_weights) rfl
  refine ⟨fd, Fd.kp, FunD.bindsN Fd (fun _ _ _ _ _ _ us hl => match us, hl with | [_, _], _ => rfl), He.glo_ok KX G (c.fact 53 (f := .glo "need_weights") rfl), fn_ok Fd sc_need_weights fun cdv A outer s H E hr Wx tk D hK hst => ?_⟩
  have hu := DL.hu_of hr
  have hp : PassesOwn (model P w) (A.deeper (envOfC "need_weights" (defScope (top 47)) s.heap.objs.size (He.ga K "need_weights") cdv)) (envOfC "need_weights" (defScope (top 47)) s.heap.objs.size (He.ga K "need_weights") cdv) (cxOf (L2.CX P w) P w K mg base N_need_weights "need_weights" (defScope (top 47)) (He.ga K "need_weights") cdv A outer s H E).xe := passes_of (X := cxOf (L2.CX P w) P w K mg base N_need_weights "need_weights" (defScope (top 47)) (He.ga K "need_weights") cdv A outer s H E) rfl
  exact (dss_cons (ds_if (dt_not (dt_val (de_fn h_are_weights_of (Room.mono hr (by decide)) rfl tk (da_cons (de_var (i := 0) rfl (by first | exact .inl rfl | exact .inr (.inl rfl) | exact .inr (.inr rfl))) (da_cons (de_var (i := 1) rfl (by first | exact .inl rfl | exact .inr (.inl rfl) | exact .inr (.inr rfl))) da_nil)) hK (fun h => Bool.noConfusion h) (lq_cons (lq_cons lq_nil)))))
 (dss_cons ds_bad
 dss_nil)
 dss_nil)
 dss_nil)
def B_value_in : SM :=
 (sSeq (sRet (eCall false F_lowest [] (aCons (eOf gSumA (aCons (eBin ixW (eVar 0) (eC (.int 1))) aNil)) (aCons (eBin ixW (eVar 0) (eC (.int 0))) aNil))))
 sNext)
def F_value_in : FM := runB 1 B_value_in
abbrev N_value_in : List Str := ["product"]
theorem sc_value_in : FnScope N_value_in ["product"] (defScope (top 40)) := ⟨rfl, rfl, rfl, by decide +kernel, rfl, by decide +kernel, by decide +kernel⟩
theorem ok_value_in {P : Program} {w : World} {K : PySem.W.Frag} {mg : Str → Option Value} {base h : Heap} (KX : K.In h) (G : h.Ns mainGlobals mg) (c : He.SaysD fa fn K) (kt_SIZES : KTab K w (He.ga K "SIZES") tab_SIZES) : Has P w K mg base 3 "value_in" ["product"] (callP K false F_value_in 1) := by
  have h_lowest : Has P w K mg base _ _ _ _ := ok_lowest KX G c kt_SIZES
  have g_sum := He.free_ok KX G (c.fact 48 (f := .free "sum") rfl)
  have nd := sc_value_in.nd
  obtain ⟨fd, Fd⟩ := c.def_ 36 (d := d_value_in) rfl
  refine ⟨fd, Fd.kp, FunD.bindsN Fd (fun _ _ _ _ _ _ us hl => match us, hl with | [_], _ => rfl), He.glo_ok KX G (c.fact 54 (f := .glo "value_in") rfl), fn_ok Fd sc_value_in fun cdv A outer s H E hr Wx tk D hK hst => ?_⟩
  have hu := DL.hu_of hr
  have hp : PassesOwn (model P w) (A.deeper (envOfC "value_in" (defScope (top 40)) s.heap.objs.size (He.ga K "value_in") cdv)) (envOfC "value_in" (defScope (top 40)) s.heap.objs.size (He.ga K "value_in") cdv) (cxOf (L2.CX P w) P w K mg base N_value_in "value_in" (defScope (top 40)) (He.ga K "value_in") cdv A outer s H E).xe := passes_of (X := cxOf (L2.CX P w) P w K mg base N_value_in "value_in" (defScope (top 40)) (He.ga K "value_in") cdv A outer s H E) rfl
  exact (dss_cons (ds_ret (de_fn h_lowest (Room.mono hr (by decide)) rfl tk (da_cons (de_callB (dc_sumA hK rfl) rfl g_sum bt_sum (da_cons (de_ixD hK (hu1 hu) (de_var (i := 0) rfl (by first | exact .inl rfl | exact .inr (.inl rfl) | exact .inr (.inr rfl))) de_int (fun _ _ => rfl)) da_nil)) (da_cons (de_ixD hK (hu1 hu) (de_var (i := 0) rfl (by first | exact .inl rfl | exact .inr (.inl rfl) | exact .inr (.inr rfl))) de_int (fun _ _ => rfl)) da_nil)) hK (fun h => Bool.noConfusion h) (lq_cons (lq_cons lq_nil))))
 dss_nil)
def B_judged_in : SM :=
 (sSeq (sIf (tOr (tNot (tVal (eIsi "tuple" (eVar 1)))) (tOr (tVal (eBin gEq (eVar 1) (eTup aNil))) (tNot (tVal (eIsi "str" (eBin ixW (eVar 1) (eC (.int 0))))))))
 (sSeq sBad
 sNext)
 sNext)
 (sSeq (sIf (tVal (eBin gNe (eTabGet tab_SIZES (eBin ixW (eVar 1) (eC (.int 0)))) (eOf gLen (aCons (eVar 1) aNil))))
 (sSeq sBad
 sNext)
 sNext)
 (sSeq (sIf (tVal (eBin gEq (eBin ixW (eVar 1) (eC (.int 0))) (eC (.str "endless"))))
 (sSeq (sIf (tOr (tNot (tVal (eCall false F_is_integer [] (aCons (eBin ixW (eVar 1) (eC (.int 1))) aNil)))) (tVal (eBin gNotInA (eBin ixW (eVar 1) (eC (.int 1))) (eCall false F_bare_in [] (aCons (eVar 0) aNil)))))
 (sSeq sBad
 sNext)
 sNext)
 (sSeq (sRet (eC .none))
 sNext))
 sNext)
 (sSeq (sDrop (eCall false F_need_product [] (aCons (eVar 0) (aCons (eBin ixW (eVar 1) (eC (.int 1))) aNil))))
 (sSeq (sDrop (eCall false F_need_weights [] (aCons (eVar 0) (aCons (eBin ixW (eVar 1) (eC (.int 2))) aNil))))
 (sSeq (sIf (tVal (eBin gNe (eCall false F_value_in [] (aCons (eBin ixW (eVar 1) (eC (.int 1))) aNil)) (eCall false F_heft_in [] (aCons (eVar 0) (aCons (eBin ixW (eVar 1) (eC (.int 2))) aNil)))))
 (sSeq sBad
 sNext)
 sNext)
 (sSeq (sRet (eCall false F_value_in [] (aCons (eBin ixW (eVar 1) (eC (.int 1))) aNil)))
 sNext)))))))
def F_judged_in : FM := runB 2 B_judged_in
abbrev N_judged_in : List Str := ["query", "paper"]
theorem sc_judged_in : FnScope N_judged_in ["query", "paper"] (defScope (top 59)) := ⟨rfl, rfl, rfl, by decide +kernel, rfl, by decide +kernel, by decide +kernel⟩
theorem ok_judged_in {P : Program} {w : World} {K : PySem.W.Frag} {mg : Str → Option Value} {base h : Heap} (KX : K.In h) (G : h.Ns mainGlobals mg) (c : He.SaysD fa fn K) (kt_SIZES : KTab K w (He.ga K "SIZES") tab_SIZES) : Has P w K mg base 5 "judged_in" ["query", "paper"] (callP K false F_judged_in 2) := by
  have h_bare_in : Has P w K mg base _ _ _ _ := ok_bare_in KX G c kt_SIZES
  have h_heft_in : Has P w K mg base _ _ _ _ := ok_heft_in KX G c kt_SIZES
  have h_is_integer : Has P w K mg base _ _ _ _ := ok_is_integer KX G c kt_SIZES
  have h_need_product : Has P w K mg base _ _ _ _ := ok_need_product KX G c kt_SIZES
  have h_need_weights : Has P w K mg base _ _ _ _ := ok_need_weights KX G c kt_SIZES
  have h_value_in : Has P w K mg base _ _ _ _ := ok_value_in KX G c kt_SIZES
  have g_isinstance := He.free_ok KX G (c.fact 25 (f := .free "isinstance") rfl)
  have g_len := He.free_ok KX G (c.fact 5 (f := .free "len") rfl)
  have g_str := He.free_ok KX G (c.fact 56 (f := .free "str") rfl)
  have g_tuple := He.free_ok KX G (c.fact 7 (f := .free "tuple") rfl)
  obtain ⟨t_ENDLESS, c_ENDLESS⟩ := He.str_ok KX G (c.fact 58 (f := .str "ENDLESS" "endless") rfl)
  have t_SIZES := He.glo_ok KX G (c.fact 57 (f := .glo "SIZES") rfl)
  have nd := sc_judged_in.nd
  obtain ⟨fd, Fd⟩ := c.def_ 37 (d := d_judged_in) rfl
  refine ⟨fd, Fd.kp, FunD.bindsN Fd (fun _ _ _ _ _ _ us hl => match us, hl with | [_, _], _ => rfl), He.glo_ok KX G (c.fact 55 (f := .glo "judged_in") rfl), fn_ok Fd sc_judged_in fun cdv A outer s H E hr Wx tk D hK hst => ?_⟩
  have hu := DL.hu_of hr
  have hp : PassesOwn (model P w) (A.deeper (envOfC "judged_in" (defScope (top 59)) s.heap.objs.size (He.ga K "judged_in") cdv)) (envOfC "judged_in" (defScope (top 59)) s.heap.objs.size (He.ga K "judged_in") cdv) (cxOf (L2.CX P w) P w K mg base N_judged_in "judged_in" (defScope (top 59)) (He.ga K "judged_in") cdv A outer s H E).xe := passes_of (X := cxOf (L2.CX P w) P w K mg base N_judged_in "judged_in" (defScope (top 59)) (He.ga K "judged_in") cdv A outer s H E) rfl
  exact (dss_cons (ds_if (DW.pt (dw_or (dt_not (dt_val (de_isi (T := "tuple") hK rfl g_isinstance rfl g_tuple kit_tuple bt_tuple (by decide) (by decide) (de_var (i := 1) rfl (by first | exact .inl rfl | exact .inr (.inl rfl) | exact .inr (.inr rfl)))))) (dw_or (dt_cmp (dop_eq hK (hu64 hu)) (de_var (i := 1) rfl (by first | exact .inl rfl | exact .inr (.inl rfl) | exact .inr (.inr rfl))) (de_tup da_nil) (nomark _)) (dw_or1 (dt_not (dt_val (de_isi (T := "str") hK rfl g_isinstance rfl g_str kit_str bt_str (by decide) (by decide) (de_ixD hK (hu1 hu) (de_var (i := 1) rfl (by first | exact .inl rfl | exact .inr (.inl rfl) | exact .inr (.inr rfl))) de_int (fun _ _ => rfl)))))))))
 (dss_cons ds_bad
 dss_nil)
 dss_nil)
 (dss_cons (ds_if (dt_cmp (dop_ne hK (hu64 hu)) (de_tabGet hK rfl t_SIZES kt_SIZES (de_ixD hK (hu1 hu) (de_var (i := 1) rfl (by first | exact .inl rfl | exact .inr (.inl rfl) | exact .inr (.inr rfl))) de_int (fun _ _ => rfl)) ⟨rfl, rfl, rfl, rfl⟩) (de_callB (dc_len hK) rfl g_len bt_len (da_cons (de_var (i := 1) rfl (by first | exact .inl rfl | exact .inr (.inl rfl) | exact .inr (.inr rfl))) da_nil)) (nomark _))
 (dss_cons ds_bad
 dss_nil)
 dss_nil)
 (dss_cons (ds_if (dt_cmp (dop_eq hK (hu64 hu)) (de_ixD hK (hu1 hu) (de_var (i := 1) rfl (by first | exact .inl rfl | exact .inr (.inl rfl) | exact .inr (.inr rfl))) de_int (fun _ _ => rfl)) (de_glob (v := V.str "endless") rfl c_ENDLESS ⟨_, rfl⟩ (fun _ _ => rp_str)) (nomark _))
 (dss_cons (ds_if (DW.pt (dw_or (dt_not (dt_val (de_fn h_is_integer (Room.mono hr (by decide)) rfl tk (da_cons (de_ixD hK (hu1 hu) (de_var (i := 1) rfl (by first | exact .inl rfl | exact .inr (.inl rfl) | exact .inr (.inr rfl))) de_int (fun _ _ => rfl)) da_nil) hK (fun h => Bool.noConfusion h) (lq_cons lq_nil)))) (dw_or1 (dt_cmp (dop_notinA hK hu) (de_ixD hK (hu1 hu) (de_var (i := 1) rfl (by first | exact .inl rfl | exact .inr (.inl rfl) | exact .inr (.inr rfl))) de_int (fun _ _ => rfl)) (de_fn h_bare_in (Room.mono hr (by decide)) rfl tk (da_cons (de_var (i := 0) rfl (by first | exact .inl rfl | exact .inr (.inl rfl) | exact .inr (.inr rfl))) da_nil) hK (fun h => Bool.noConfusion h) (lq_cons lq_nil)) (by with_unfolding_all rfl)))))
 (dss_cons ds_bad
 dss_nil)
 dss_nil)
 (dss_cons (ds_ret de_non)
 dss_nil))
 dss_nil)
 (dss_cons (ds_expr (de_fn h_need_product (Room.mono hr (by decide)) rfl tk (da_cons (de_var (i := 0) rfl (by first | exact .inl rfl | exact .inr (.inl rfl) | exact .inr (.inr rfl))) (da_cons (de_ixD hK (hu1 hu) (de_var (i := 1) rfl (by first | exact .inl rfl | exact .inr (.inl rfl) | exact .inr (.inr rfl))) de_int (fun _ _ => rfl)) da_nil)) hK (fun h => Bool.noConfusion h) (lq_cons (lq_cons lq_nil))))
 (dss_cons (ds_expr (de_fn h_need_weights (Room.mono hr (by decide)) rfl tk (da_cons (de_var (i := 0) rfl (by first | exact .inl rfl | exact .inr (.inl rfl) | exact .inr (.inr rfl))) (da_cons (de_ixD hK (hu1 hu) (de_var (i := 1) rfl (by first | exact .inl rfl | exact .inr (.inl rfl) | exact .inr (.inr rfl))) de_int (fun _ _ => rfl)) da_nil)) hK (fun h => Bool.noConfusion h) (lq_cons (lq_cons lq_nil))))
 (dss_cons (ds_if (dt_cmp (dop_ne hK (hu64 hu)) (de_fn h_value_in (Room.mono hr (by decide)) rfl tk (da_cons (de_ixD hK (hu1 hu) (de_var (i := 1) rfl (by first | exact .inl rfl | exact .inr (.inl rfl) | exact .inr (.inr rfl))) de_int (fun _ _ => rfl)) da_nil) hK (fun h => Bool.noConfusion h) (lq_cons lq_nil)) (de_fn h_heft_in (Room.mono hr (by decide)) rfl tk (da_cons (de_var (i := 0) rfl (by first | exact .inl rfl | exact .inr (.inl rfl) | exact .inr (.inr rfl))) (da_cons (de_ixD hK (hu1 hu) (de_var (i := 1) rfl (by first | exact .inl rfl | exact .inr (.inl rfl) | exact .inr (.inr rfl))) de_int (fun _ _ => rfl)) da_nil)) hK (fun h => Bool.noConfusion h) (lq_cons (lq_cons lq_nil))) (nomark _))
 (dss_cons ds_bad
 dss_nil)
 dss_nil)
 (dss_cons (ds_ret (de_fn h_value_in (Room.mono hr (by decide)) rfl tk (da_cons (de_ixD hK (hu1 hu) (de_var (i := 1) rfl (by first | exact .inl rfl | exact .inr (.inl rfl) | exact .inr (.inr rfl))) de_int (fun _ _ => rfl)) da_nil) hK (fun h => Bool.noConfusion h) (lq_cons lq_nil)))
 dss_nil)))))))
def B_check_room : SM :=
 (sSeq (sRet (eCall false F_judged_in [] (aCons (eCall false F_need_even [] (aCons (eVar 0) aNil)) (aCons (eVar 1) aNil))))
 sNext)
def F_check_room : FM := runB 2 B_check_room
abbrev N_check_room : List Str := ["query", "paper"]
theorem sc_check_room : FnScope N_check_room ["query", "paper"] (defScope (top 60)) := ⟨rfl, rfl, rfl, by decide +kernel, rfl, by decide +kernel, by decide +kernel⟩
theorem ok_check_room {P : Program} {w : World} {K : PySem.W.Frag} {mg : Str → Option Value} {base h : Heap} (KX : K.In h) (G : h.Ns mainGlobals mg) (c : He.SaysD fa fn K) (kt_SIZES : KTab K w (He.ga K "SIZES") tab_SIZES) : Has P w K mg base 7 "check_room" ["query", "paper"] (callP K false F_check_room 2) := by
  have h_judged_in : Has P w K mg base _ _ _ _ := ok_judged_in KX G c kt_SIZES
  have h_need_even : Has P w K mg base _ _ _ _ := ok_need_even KX G c kt_SIZES
  have nd := sc_check_room.nd
  obtain ⟨fd, Fd⟩ := c.def_ 38 (d := d_check_room) rfl
  refine ⟨fd, Fd.kp, FunD.bindsN Fd (fun _ _ _ _ _ _ us hl => match us, hl with | [_, _], _ => rfl), He.glo_ok KX G (c.fact 59 (f := .glo "check_room") rfl), fn_ok Fd sc_check_room fun cdv A outer s H E hr Wx tk D hK hst => ?_⟩
  have hu := DL.hu_of hr
  have hp : PassesOwn (model P w) (A.deeper (envOfC "check_room" (defScope (top 60)) s.heap.objs.size (He.ga K "check_room") cdv)) (envOfC "check_room" (defScope (top 60)) s.heap.objs.size (He.ga K "check_room") cdv) (cxOf (L2.CX P w) P w K mg base N_check_room "check_room" (defScope (top 60)) (He.ga K "check_room") cdv A outer s H E).xe := passes_of (X := cxOf (L2.CX P w) P w K mg base N_check_room "check_room" (defScope (top 60)) (He.ga K "check_room") cdv A outer s H E) rfl
  exact (dss_cons (ds_ret (de_fn h_judged_in (Room.mono hr (by decide)) rfl tk (da_cons (de_fn h_need_even (Room.mono hr (by decide)) rfl tk (da_cons (de_var (i := 0) rfl (by first | exact .inl rfl | exact .inr (.inl rfl) | exact .inr (.inr rfl))) da_nil) hK (fun h => Bool.noConfusion h) (lq_cons lq_nil)) (da_cons (de_var (i := 1) rfl (by first | exact .inl rfl | exact .inr (.inl rfl) | exact .inr (.inr rfl))) da_nil)) hK (fun h => Bool.noConfusion h) (lq_cons (lq_cons lq_nil))))
 dss_nil)
def B_product_value : SM :=
 (sSeq (sDrop (eCall false F_need_product [] (aCons (eCall false F_need_even [] (aCons (eVar 0) aNil)) (aCons (eVar 1) aNil))))
 (sSeq (sRet (eCall false F_value_in [] (aCons (eVar 1) aNil)))
 sNext))
def F_product_value : FM := runB 2 B_product_value
abbrev N_product_value : List Str := ["query", "product"]
theorem sc_product_value : FnScope N_product_value ["query", "product"] (defScope (top 41)) := ⟨rfl, rfl, rfl, by decide +kernel, rfl, by decide +kernel, by decide +kernel⟩
theorem ok_product_value {P : Program} {w : World} {K : PySem.W.Frag} {mg : Str → Option Value} {base h : Heap} (KX : K.In h) (G : h.Ns mainGlobals mg) (c : He.SaysD fa fn K) (kt_SIZES : KTab K w (He.ga K "SIZES") tab_SIZES) : Has P w K mg base 7 "product_value" ["query", "product"] (callP K false F_product_value 2) := by
  have h_need_even : Has P w K mg base _ _ _ _ := ok_need_even KX G c kt_SIZES
  have h_need_product : Has P w K mg base _ _ _ _ := ok_need_product KX G c kt_SIZES
  have h_value_in : Has P w K mg base _ _ _ _ := ok_value_in KX G c kt_SIZES
  have nd := sc_product_value.nd
  obtain ⟨fd, Fd⟩ := c.def_ 39 (d := d_product_value) rfl
  refine ⟨fd, Fd.kp, FunD.bindsN Fd (fun _ _ _ _ _ _ us hl => match us, hl with | [_, _], _ => rfl), He.glo_ok KX G (c.fact 60 (f := .glo "product_value") rfl), fn_ok Fd sc_product_value fun cdv A outer s H E hr Wx tk D hK hst => ?_⟩
  have hu := DL.hu_of hr
  have hp : PassesOwn (model P w) (A.deeper (envOfC "product_value" (defScope (top 41)) s.heap.objs.size (He.ga K "product_value") cdv)) (envOfC "product_value" (defScope (top 41)) s.heap.objs.size (He.ga K "product_value") cdv) (cxOf (L2.CX P w) P w K mg base N_product_value "product_value" (defScope (top 41)) (He.ga K "product_value") cdv A outer s H E).xe := passes_of (X := cxOf (L2.CX P w) P w K mg base N_product_value "product_value" (defScope (top 41)) (He.ga K "product_value") cdv A outer s H E) rfl
  exact (dss_cons (ds_expr (de_fn h_need_product (Room.mono hr (by decide)) rfl tk (da_cons (de_fn h_need_even (Room.mono hr (by decide)) rfl tk (da_cons (de_var (i := 0) rfl (by first | exact .inl rfl | exact .inr (.inl rfl) | exact .inr (.inr rfl))) da_nil) hK (fun h => Bool.noConfusion h) (lq_cons lq_nil)) (da_cons (de_var (i := 1) rfl (by first | exact .inl rfl | exact .inr (.inl rfl) | exact .inr (.inr rfl))) da_nil)) hK (fun h => Bool.noConfusion h) (lq_cons (lq_cons lq_nil))))
 (dss_cons (ds_ret (de_fn h_value_in (Room.mono hr (by decide)) rfl tk (da_cons (de_var (i := 1) rfl (by first | exact .inl rfl | exact .inr (.inl rfl) | exact .inr (.inr rfl))) da_nil) hK (fun h => Bool.noConfusion h) (lq_cons lq_nil)))
 dss_nil))
def B_room_in : SM :=
 (sSeq (sSet 1 (vFz (eCall false F_best_in [] (aCons (eVar 0) aNil))))
 (sSeq (sRet (eIf (tVal (eBin gIsNot (eVar 1) (eC .none))) (eCall false F_value_in [] (aCons (eVar 1) aNil)) (eC .none)))
 sNext))
def F_room_in : FM := runB 2 B_room_in
abbrev N_room_in : List Str := ["query", "best"]
theorem sc_room_in : FnScope N_room_in ["query"] (defScope (top 57)) := ⟨rfl, rfl, rfl, by decide +kernel, rfl, by decide +kernel, by decide +kernel⟩
theorem ok_room_in {P : Program} {w : World} {K : PySem.W.Frag} {mg : Str → Option Value} {base h : Heap} (KX : K.In h) (G : h.Ns mainGlobals mg) (c : He.SaysD fa fn K) (kt_SIZES : KTab K w (He.ga K "SIZES") tab_SIZES) : Has P w K mg base 6 "room_in" ["query"] (callP K false F_room_in 1) := by
  have h_best_in : Has P w K mg base _ _ _ _ := ok_best_in KX G c kt_SIZES
  have h_value_in : Has P w K mg base _ _ _ _ := ok_value_in KX G c kt_SIZES
  have nd := sc_room_in.nd
  obtain ⟨fd, Fd⟩ := c.def_ 40 (d := d_room_in) rfl
  refine ⟨fd, Fd.kp, FunD.bindsN Fd (fun _ _ _ _ _ _ us hl => match us, hl with | [_], _ => rfl), He.glo_ok KX G (c.fact 61 (f := .glo "room_in") rfl), fn_ok Fd sc_room_in fun cdv A outer s H E hr Wx tk D hK hst => ?_⟩
  have hu := DL.hu_of hr
  have hp : PassesOwn (model P w) (A.deeper (envOfC "room_in" (defScope (top 57)) s.heap.objs.size (He.ga K "room_in") cdv)) (envOfC "room_in" (defScope (top 57)) s.heap.objs.size (He.ga K "room_in") cdv) (cxOf (L2.CX P w) P w K mg base N_room_in "room_in" (defScope (top 57)) (He.ga K "room_in") cdv A outer s H E).xe := passes_of (X := cxOf (L2.CX P w) P w K mg base N_room_in "room_in" (defScope (top 57)) (He.ga K "room_in") cdv A outer s H E) rfl
  exact (dss_cons (ds_set (i := 1) nd rfl (by first | exact .inl rfl | exact .inr rfl) (dv_fz (de_fn h_best_in (Room.mono hr (by decide)) rfl tk (da_cons (de_var (i := 0) rfl (by first | exact .inl rfl | exact .inr (.inl rfl) | exact .inr (.inr rfl))) da_nil) hK (fun h => Bool.noConfusion h) (lq_cons lq_nil))))
 (dss_cons (ds_ret (de_if (dt_cmp dop_isnot (de_var (i := 1) rfl (by first | exact .inl rfl | exact .inr (.inl rfl) | exact .inr (.inr rfl))) de_non (nomark _)) (de_fn h_value_in (Room.mono hr (by decide)) rfl tk (da_cons (de_var (i := 1) rfl (by first | exact .inl rfl | exact .inr (.inl rfl) | exact .inr (.inr rfl))) da_nil) hK (fun h => Bool.noConfusion h) (lq_cons lq_nil)) de_non))
 dss_nil))
def B_room : SM :=
 (sSeq (sRet (eCall false F_room_in [] (aCons (eCall false F_need_even [] (aCons (eVar 0) aNil)) aNil)))
 sNext)
def F_room : FM := runB 1 B_room
abbrev N_room : List Str := ["query"]
theorem sc_room : FnScope N_room ["query"] (defScope (top 58)) := ⟨rfl, rfl, rfl, by decide +kernel, rfl, by decide +kernel, by decide +kernel⟩
theorem ok_room {P : Program} {w : World} {K : PySem.W.Frag} {mg : Str → Option Value} {base h : Heap} (KX : K.In h) (G : h.Ns mainGlobals mg) (c : He.SaysD fa fn K) (kt_SIZES : KTab K w (He.ga K "SIZES") tab_SIZES) : Has P w K mg base 7 "room" ["query"] (callP K false F_room 1) := by
  have h_need_even : Has P w K mg base _ _ _ _ := ok_need_even KX G c kt_SIZES
  have h_room_in : Has P w K mg base _ _ _ _ := ok_room_in KX G c kt_SIZES
  have nd := sc_room.nd
  obtain ⟨fd, Fd⟩ := c.def_ 41 (d := d_room) rfl
  refine ⟨fd, Fd.kp, FunD.bindsN Fd (fun _ _ _ _ _ _ us hl => match us, hl with | [_], _ => rfl), He.glo_ok KX G (c.fact 62 (f := .glo "room") rfl), fn_ok Fd sc_room fun cdv A outer s H E hr Wx tk D hK hst => ?_⟩
  have hu := DL.hu_of hr
  have hp : PassesOwn (model P w) (A.deeper (envOfC "room" (defScope (top 58)) s.heap.objs.size (He.ga K "room") cdv)) (envOfC "room" (defScope (top 58)) s.heap.objs.size (He.ga K "room") cdv) (cxOf (L2.CX P w) P w K mg base N_room "room" (defScope (top 58)) (He.ga K "room") cdv A outer s H E).xe := passes_of (X := cxOf (L2.CX P w) P w K mg base N_room "room" (defScope (top 58)) (He.ga K "room") cdv A outer s H E) rfl
  exact (dss_cons (ds_ret (de_fn h_room_in (Room.mono hr (by decide)) rfl tk (da_cons (de_fn h_need_even (Room.mono hr (by decide)) rfl tk (da_cons (de_var (i := 0) rfl (by first | exact .inl rfl | exact .inr (.inl rfl) | exact .inr (.inr rfl))) da_nil) hK (fun h => Bool.noConfusion h) (lq_cons lq_nil)) da_nil) hK (fun h => Bool.noConfusion h) (lq_cons lq_nil)))
 dss_nil)
def B__law_ring_right : SM :=
 (sSeq (sSet 1 (vFz (eTup (aCons (eTup (aCons (eC (.int 0)) (aCons (eC (.int 1)) aNil))) (aCons (eTup (aCons (eC (.int 0)) (aCons (eC (.int 2)) aNil))) (aCons (eTup (aCons (eC (.int 1)) (aCons (eC (.int 2)) aNil))) aNil))))))
 (sSeq (sSet 2 (vFz (eOf gTuple (aCons (eFz (fComp (iEn (eVar 1)) (gTupW (gsCons (setFz 7) (gsCons (setFz 8) gsNil))) tYesM (eTup (aCons (eVar 7) (aCons (eTup aNil) (aCons (eVar 8) (aCons (eVar 0) aNil))))) [7, 8])) aNil))))
 (sSeq (sSet 3 (vFz (eIf (tVal (eBin gEq (eBin gModI (eOf gInt (aCons (eVar 0) aNil)) (eC (.int 2))) (eC (.int 1)))) (eTup (aCons (eBin gTimes (eC (.int 3)) (eVar 0)) (aCons (eC (.int 2)) aNil))) (eTup (aCons (eOf gInt (aCons (eBin gDivI (eBin gTimes (eC (.int 3)) (eVar 0)) (eC (.int 2))) aNil)) (aCons (eC (.int 1)) aNil))))))
 (sSeq (sSet 4 (vFz (eTup (aCons (eC (.int 3)) (aCons (eVar 1) (aCons (eVar 2) aNil))))))
 (sSeq (sIf (tOr (tVal (eBin gNe (eCall false F_room [] (aCons (eVar 4) aNil)) (eVar 3))) (tVal (eBin gNe (eCall false F_check_room [] (aCons (eVar 4) (aCons (eTup (aCons (eC (.str "room")) (aCons (eTup (aCons (eC (.int 2)) (aCons (eBin gTimes (eTup (aCons (eVar 0) aNil)) (eC (.int 3))) aNil))) (aCons (eTup (aCons (eC (.int 2)) (aCons (eTup (aCons (eC (.int 1)) (aCons (eC (.int 1)) (aCons (eC (.int 1)) aNil)))) aNil))) aNil)))) aNil))) (eVar 3))))
 (sSeq (sRet (eC (.bool false)))
 sNext)
 sNext)
 (sSeq (sSet 5 (vFz (eBin gPlus (eVar 1) (eTup (aCons (eTup (aCons (eC (.int 3)) (aCons (eC (.int 4)) aNil))) (aCons (eTup (aCons (eC (.int 3)) (aCons (eC (.int 5)) aNil))) (aCons (eTup (aCons (eC (.int 4)) (aCons (eC (.int 5)) aNil))) aNil)))))))
 (sSeq (sIf (tVal (eBin gNe (eCall false F_room [] (aCons (eTup (aCons (eC (.int 6)) (aCons (eVar 5) (aCons (eOf gTuple (aCons (eFz (fComp (iEn (eVar 5)) (gTupW (gsCons (setFz 7) (gsCons (setFz 8) gsNil))) tYesM (eTup (aCons (eVar 7) (aCons (eTup aNil) (aCons (eVar 8) (aCons (eVar 0) aNil))))) [7, 8])) aNil)) aNil)))) aNil)) (eTup (aCons (eBin gTimes (eC (.int 3)) (eVar 0)) (aCons (eC (.int 1)) aNil)))))
 (sSeq (sRet (eC (.bool false)))
 sNext)
 sNext)
 (sSeq (sSet 6 (vFz (eBin gPlus (eCut (eVar 2) oNone (oSome (eC (.int 2)))) (eTup (aCons (eTup (aCons (eC (.int 2)) (aCons (eTup aNil) (aCons (eTup (aCons (eC (.int 1)) (aCons (eC (.int 2)) aNil))) (aCons (eBin gPlus (eBin gTimes (eC (.int 2)) (eVar 0)) (eC (.int 1))) aNil))))) aNil)))))
 (sSeq (sIf (tOr (tVal (eBin gNe (eCall false F_room [] (aCons (eTup (aCons (eC (.int 3)) (aCons (eVar 1) (aCons (eVar 6) aNil)))) aNil)) (eTup (aCons (eBin gTimes (eC (.int 2)) (eVar 0)) (aCons (eC (.int 1)) aNil))))) (tVal (eBin gNe (eBin ixW (eBin ixW (eCall false F_best_weights [] (aCons (eTup (aCons (eC (.int 3)) (aCons (eVar 1) (aCons (eVar 6) aNil)))) aNil)) (eC (.int 1))) (eC (.int 2))) (eC (.int 0)))))
 (sSeq (sRet (eC (.bool false)))
 sNext)
 sNext)
 (sSeq (sIf (tVal (eBin gNe (eCall false F_product_value [] (aCons (eVar 4) (aCons (eCall false F_best_product [] (aCons (eVar 4) aNil)) aNil))) (eVar 3)))
 (sSeq (sRet (eC (.bool false)))
 sNext)
 sNext)
 (sSeq (sRet (eBin gEq (eCall false F_product_value [] (aCons (eVar 4) (aCons (eTup (aCons (eC (.int 2)) (aCons (eTup (aCons (eVar 0) (aCons (eC (.int 0)) (aCons (eVar 0) aNil)))) aNil))) aNil))) (eTup (aCons (eVar 0) (aCons (eC (.int 1)) aNil)))))
 sNext)))))))))))
def F__law_ring_right : FM := runB 9 B__law_ring_right
abbrev N__law_ring_right : List Str := ["_law_size", "_law_tables", "_law_facts", "_law_due", "_law_query", "_law_both", "_law_great", "_law_table", "_law_lot"]
theorem sc__law_ring_right : FnScope N__law_ring_right ["_law_size"] (defScope (top 65)) := ⟨rfl, rfl, rfl, by decide +kernel, rfl, by decide +kernel, by decide +kernel⟩
theorem ok__law_ring_right {P : Program} {w : World} {K : PySem.W.Frag} {mg : Str → Option Value} {base h : Heap} (KX : K.In h) (G : h.Ns mainGlobals mg) (c : He.SaysD fa fn K) (kt_SIZES : KTab K w (He.ga K "SIZES") tab_SIZES) : Has P w K mg base 8 "_law_ring_right" ["_law_size"] (callP K false F__law_ring_right 1) := by
  have h_best_product : Has P w K mg base _ _ _ _ := ok_best_product KX G c kt_SIZES
  have h_best_weights : Has P w K mg base _ _ _ _ := ok_best_weights KX G c kt_SIZES
  have h_check_room : Has P w K mg base _ _ _ _ := ok_check_room KX G c kt_SIZES
  have h_product_value : Has P w K mg base _ _ _ _ := ok_product_value KX G c kt_SIZES
  have h_room : Has P w K mg base _ _ _ _ := ok_room KX G c kt_SIZES
  have g_enumerate := He.free_ok KX G (c.fact 16 (f := .free "enumerate") rfl)
  have g_int := He.free_ok KX G (c.fact 3 (f := .free "int") rfl)
  have g_tuple := He.free_ok KX G (c.fact 7 (f := .free "tuple") rfl)
  have nd := sc__law_ring_right.nd
  obtain ⟨fd, Fd⟩ := c.def_ 42 (d := d__law_ring_right) rfl
  refine ⟨fd, Fd.kp, FunD.bindsN Fd (fun _ _ _ _ _ _ us hl => match us, hl with | [_], _ => rfl), He.glo_ok KX G (c.fact 63 (f := .glo "_law_ring_right") rfl), fn_ok Fd sc__law_ring_right fun cdv A outer s H E hr Wx tk D hK hst => ?_⟩
  have hu := DL.hu_of hr
  have hp : PassesOwn (model P w) (A.deeper (envOfC "_law_ring_right" (defScope (top 65)) s.heap.objs.size (He.ga K "_law_ring_right") cdv)) (envOfC "_law_ring_right" (defScope (top 65)) s.heap.objs.size (He.ga K "_law_ring_right") cdv) (cxOf (L2.CX P w) P w K mg base N__law_ring_right "_law_ring_right" (defScope (top 65)) (He.ga K "_law_ring_right") cdv A outer s H E).xe := passes_of (X := cxOf (L2.CX P w) P w K mg base N__law_ring_right "_law_ring_right" (defScope (top 65)) (He.ga K "_law_ring_right") cdv A outer s H E) rfl
  exact (dss_cons (ds_set (i := 1) nd rfl (by first | exact .inl rfl | exact .inr rfl) (dv_fz (de_tup (da_cons (de_tup (da_cons de_int (da_cons de_int da_nil))) (da_cons (de_tup (da_cons de_int (da_cons de_int da_nil))) (da_cons (de_tup (da_cons de_int (da_cons de_int da_nil))) da_nil))))))
 (dss_cons (ds_set (i := 2) nd rfl (by first | exact .inl rfl | exact .inr rfl) (dv_fz (de_callTy (dc_tuple hK) rfl g_tuple bt_tuple (da_cons (de_fz (df_comp (own := [("_law_table", 7), ("_law_lot", 8)]) hK rfl nd (di_enum hK rfl g_enumerate (de_var (i := 1) rfl (by first | exact .inl rfl | exact .inr (.inl rfl) | exact .inr (.inr rfl)))) (blkOk_by (by rfl)) (fun _ _ _ _ _ D hK hS => (dg_tup hK rfl (dgs_cons (dg_name (i := 7) nd rfl (by first | exact .inl rfl | exact .inr rfl)) (dgs_cons (dg_name (i := 8) nd rfl (by first | exact .inl rfl | exact .inr rfl)) dgs_nil)))) (fun _ _ _ _ _ D hK hS => pts0) (fun _ _ _ _ _ D hK hS => (de_tup (da_cons (de_var (i := 7) rfl (by first | exact .inl rfl | exact .inr (.inl rfl) | exact .inr (.inr rfl))) (da_cons (de_tup da_nil) (da_cons (de_var (i := 8) rfl (by first | exact .inl rfl | exact .inr (.inl rfl) | exact .inr (.inr rfl))) (da_cons (de_var (i := 0) rfl (by first | exact .inl rfl | exact .inr (.inl rfl) | exact .inr (.inr rfl))) da_nil)))))) q_yes (q_tup (q_cons q_var (q_cons (q_tup q_nil) (q_cons q_var (q_cons q_var q_nil))))) (by decide))) da_nil))))
 (dss_cons (ds_set (i := 3) nd rfl (by first | exact .inl rfl | exact .inr rfl) (dv_fz (de_if (dt_cmp (dop_eq hK (hu64 hu)) (de_op dop_mod (de_callTy dc_int rfl g_int bt_int (da_cons (de_var (i := 0) rfl (by first | exact .inl rfl | exact .inr (.inl rfl) | exact .inr (.inr rfl))) da_nil)) de_int) de_int (nomark _)) (de_tup (da_cons (de_op (dop_times hK) de_int (de_var (i := 0) rfl (by first | exact .inl rfl | exact .inr (.inl rfl) | exact .inr (.inr rfl)))) (da_cons de_int da_nil))) (de_tup (da_cons (de_callTy dc_int rfl g_int bt_int (da_cons (de_op dop_div (de_op (dop_times hK) de_int (de_var (i := 0) rfl (by first | exact .inl rfl | exact .inr (.inl rfl) | exact .inr (.inr rfl)))) de_int) da_nil)) (da_cons de_int da_nil))))))
 (dss_cons (ds_set (i := 4) nd rfl (by first | exact .inl rfl | exact .inr rfl) (dv_fz (de_tup (da_cons de_int (da_cons (de_var (i := 1) rfl (by first | exact .inl rfl | exact .inr (.inl rfl) | exact .inr (.inr rfl))) (da_cons (de_var (i := 2) rfl (by first | exact .inl rfl | exact .inr (.inl rfl) | exact .inr (.inr rfl))) da_nil))))))
 (dss_cons (ds_if (DW.pt (dw_or (dt_cmp (dop_ne hK (hu64 hu)) (de_fn h_room (Room.mono hr (by decide)) rfl tk (da_cons (de_var (i := 4) rfl (by first | exact .inl rfl | exact .inr (.inl rfl) | exact .inr (.inr rfl))) da_nil) hK (fun h => Bool.noConfusion h) (lq_cons lq_nil)) (de_var (i := 3) rfl (by first | exact .inl rfl | exact .inr (.inl rfl) | exact .inr (.inr rfl))) (nomark _)) (dw_or1 (dt_cmp (dop_ne hK (hu64 hu)) (de_fn h_check_room (Room.mono hr (by decide)) rfl tk (da_cons (de_var (i := 4) rfl (by first | exact .inl rfl | exact .inr (.inl rfl) | exact .inr (.inr rfl))) (da_cons (de_tup (da_cons de_str (da_cons (de_tup (da_cons de_int (da_cons (de_op (dop_times hK) (de_tup (da_cons (de_var (i := 0) rfl (by first | exact .inl rfl | exact .inr (.inl rfl) | exact .inr (.inr rfl))) da_nil)) de_int) da_nil))) (da_cons (de_tup (da_cons de_int (da_cons (de_tup (da_cons de_int (da_cons de_int (da_cons de_int da_nil)))) da_nil))) da_nil)))) da_nil)) hK (fun h => Bool.noConfusion h) (lq_cons (lq_cons lq_nil))) (de_var (i := 3) rfl (by first | exact .inl rfl | exact .inr (.inl rfl) | exact .inr (.inr rfl))) (nomark _)))))
 (dss_cons (ds_ret de_bl)
 dss_nil)
 dss_nil)
 (dss_cons (ds_set (i := 5) nd rfl (by first | exact .inl rfl | exact .inr rfl) (dv_fz (de_op (dop_plus hK (dop_add hK)) (de_var (i := 1) rfl (by first | exact .inl rfl | exact .inr (.inl rfl) | exact .inr (.inr rfl))) (de_tup (da_cons (de_tup (da_cons de_int (da_cons de_int da_nil))) (da_cons (de_tup (da_cons de_int (da_cons de_int da_nil))) (da_cons (de_tup (da_cons de_int (da_cons de_int da_nil))) da_nil)))))))
 (dss_cons (ds_if (dt_cmp (dop_ne hK (hu64 hu)) (de_fn h_room (Room.mono hr (by decide)) rfl tk (da_cons (de_tup (da_cons de_int (da_cons (de_var (i := 5) rfl (by first | exact .inl rfl | exact .inr (.inl rfl) | exact .inr (.inr rfl))) (da_cons (de_callTy (dc_tuple hK) rfl g_tuple bt_tuple (da_cons (de_fz (df_comp (own := [("_law_table", 7), ("_law_lot", 8)]) hK rfl nd (di_enum hK rfl g_enumerate (de_var (i := 5) rfl (by first | exact .inl rfl | exact .inr (.inl rfl) | exact .inr (.inr rfl)))) (blkOk_by (by rfl)) (fun _ _ _ _ _ D hK hS => (dg_tup hK rfl (dgs_cons (dg_name (i := 7) nd rfl (by first | exact .inl rfl | exact .inr rfl)) (dgs_cons (dg_name (i := 8) nd rfl (by first | exact .inl rfl | exact .inr rfl)) dgs_nil)))) (fun _ _ _ _ _ D hK hS => pts0) (fun _ _ _ _ _ D hK hS => (de_tup (da_cons (de_var (i := 7) rfl (by first | exact .inl rfl | exact .inr (.inl rfl) | exact .inr (.inr rfl))) (da_cons (de_tup da_nil) (da_cons (de_var (i := 8) rfl (by first | exact .inl rfl | exact .inr (.inl rfl) | exact .inr (.inr rfl))) (da_cons (de_var (i := 0) rfl (by first | exact .inl rfl | exact .inr (.inl rfl) | exact .inr (.inr rfl))) da_nil)))))) q_yes (q_tup (q_cons q_var (q_cons (q_tup q_nil) (q_cons q_var (q_cons q_var q_nil))))) (by decide))) da_nil)) da_nil)))) da_nil) hK (fun h => Bool.noConfusion h) (lq_cons lq_nil)) (de_tup (da_cons (de_op (dop_times hK) de_int (de_var (i := 0) rfl (by first | exact .inl rfl | exact .inr (.inl rfl) | exact .inr (.inr rfl)))) (da_cons de_int da_nil))) (nomark _))
 (dss_cons (ds_ret de_bl)
 dss_nil)
 dss_nil)
 (dss_cons (ds_set (i := 6) nd rfl (by first | exact .inl rfl | exact .inr rfl) (dv_fz (de_op (dop_plus hK (dop_add hK)) (de_cut hK (de_var (i := 2) rfl (by first | exact .inl rfl | exact .inr (.inl rfl) | exact .inr (.inr rfl))) do_none (do_some de_int)) (de_tup (da_cons (de_tup (da_cons de_int (da_cons (de_tup da_nil) (da_cons (de_tup (da_cons de_int (da_cons de_int da_nil))) (da_cons (de_op (dop_plus hK (dop_add hK)) (de_op (dop_times hK) de_int (de_var (i := 0) rfl (by first | exact .inl rfl | exact .inr (.inl rfl) | exact .inr (.inr rfl)))) de_int) da_nil))))) da_nil)))))
 (dss_cons (ds_if (DW.pt (dw_or (dt_cmp (dop_ne hK (hu64 hu)) (de_fn h_room (Room.mono hr (by decide)) rfl tk (da_cons (de_tup (da_cons de_int (da_cons (de_var (i := 1) rfl (by first | exact .inl rfl | exact .inr (.inl rfl) | exact .inr (.inr rfl))) (da_cons (de_var (i := 6) rfl (by first | exact .inl rfl | exact .inr (.inl rfl) | exact .inr (.inr rfl))) da_nil)))) da_nil) hK (fun h => Bool.noConfusion h) (lq_cons lq_nil)) (de_tup (da_cons (de_op (dop_times hK) de_int (de_var (i := 0) rfl (by first | exact .inl rfl | exact .inr (.inl rfl) | exact .inr (.inr rfl)))) (da_cons de_int da_nil))) (nomark _)) (dw_or1 (dt_cmp (dop_ne hK (hu64 hu)) (de_ixD hK (hu1 hu) (de_ixD hK (hu1 hu) (de_fn h_best_weights (Room.mono hr (by decide)) rfl tk (da_cons (de_tup (da_cons de_int (da_cons (de_var (i := 1) rfl (by first | exact .inl rfl | exact .inr (.inl rfl) | exact .inr (.inr rfl))) (da_cons (de_var (i := 6) rfl (by first | exact .inl rfl | exact .inr (.inl rfl) | exact .inr (.inr rfl))) da_nil)))) da_nil) hK (fun h => Bool.noConfusion h) (lq_cons lq_nil)) de_int (fun _ _ => rfl)) de_int (fun _ _ => rfl)) de_int (nomark _)))))
 (dss_cons (ds_ret de_bl)
 dss_nil)
 dss_nil)
 (dss_cons (ds_if (dt_cmp (dop_ne hK (hu64 hu)) (de_fn h_product_value (Room.mono hr (by decide)) rfl tk (da_cons (de_var (i := 4) rfl (by first | exact .inl rfl | exact .inr (.inl rfl) | exact .inr (.inr rfl))) (da_cons (de_fn h_best_product (Room.mono hr (by decide)) rfl tk (da_cons (de_var (i := 4) rfl (by first | exact .inl rfl | exact .inr (.inl rfl) | exact .inr (.inr rfl))) da_nil) hK (fun h => Bool.noConfusion h) (lq_cons lq_nil)) da_nil)) hK (fun h => Bool.noConfusion h) (lq_cons (lq_cons lq_nil))) (de_var (i := 3) rfl (by first | exact .inl rfl | exact .inr (.inl rfl) | exact .inr (.inr rfl))) (nomark _))
 (dss_cons (ds_ret de_bl)
 dss_nil)
 dss_nil)
 (dss_cons (ds_ret (de_cmp (dop_eq hK (hu64 hu)) (de_fn h_product_value (Room.mono hr (by decide)) rfl tk (da_cons (de_var (i := 4) rfl (by first | exact .inl rfl | exact .inr (.inl rfl) | exact .inr (.inr rfl))) (da_cons (de_tup (da_cons de_int (da_cons (de_tup (da_cons (de_var (i := 0) rfl (by first | exact .inl rfl | exact .inr (.inl rfl) | exact .inr (.inr rfl))) (da_cons de_int (da_cons (de_var (i := 0) rfl (by first | exact .inl rfl | exact .inr (.inl rfl) | exact .inr (.inr rfl))) da_nil)))) da_nil))) da_nil)) hK (fun h => Bool.noConfusion h) (lq_cons (lq_cons lq_nil))) (de_tup (da_cons (de_var (i := 0) rfl (by first | exact .inl rfl | exact .inr (.inl rfl) | exact .inr (.inr rfl))) (da_cons de_int da_nil))) (nomark _)))
 dss_nil)))))))))))
def B_ring_of : SM :=
 (sSeq (sRet (eCall false F_ring_in [] (aCons (eCall false F_need_query [] (aCons (eVar 0) aNil)) aNil)))
 sNext)
def F_ring_of : FM := runB 1 B_ring_of
abbrev N_ring_of : List Str := ["query"]
theorem sc_ring_of : FnScope N_ring_of ["query"] (defScope (top 21)) := ⟨rfl, rfl, rfl, by decide +kernel, rfl, by decide +kernel, by decide +kernel⟩
theorem ok_ring_of {P : Program} {w : World} {K : PySem.W.Frag} {mg : Str → Option Value} {base h : Heap} (KX : K.In h) (G : h.Ns mainGlobals mg) (c : He.SaysD fa fn K) (kt_SIZES : KTab K w (He.ga K "SIZES") tab_SIZES) : Has P w K mg base 6 "ring_of" ["query"] (callP K false F_ring_of 1) := by
  have h_need_query : Has P w K mg base _ _ _ _ := ok_need_query KX G c kt_SIZES
  have h_ring_in : Has P w K mg base _ _ _ _ := ok_ring_in KX G c kt_SIZES
  have nd := sc_ring_of.nd
  obtain ⟨fd, Fd⟩ := c.def_ 43 (d := d_ring_of) rfl
  refine ⟨fd, Fd.kp, FunD.bindsN Fd (fun _ _ _ _ _ _ us hl => match us, hl with | [_], _ => rfl), He.glo_ok KX G (c.fact 64 (f := .glo "ring_of") rfl), fn_ok Fd sc_ring_of fun cdv A outer s H E hr Wx tk D hK hst => ?_⟩
  have hu := DL.hu_of hr
  have hp : PassesOwn (model P w) (A.deeper (envOfC "ring_of" (defScope (top 21)) s.heap.objs.size (He.ga K "ring_of") cdv)) (envOfC "ring_of" (defScope (top 21)) s.heap.objs.size (He.ga K "ring_of") cdv) (cxOf (L2.CX P w) P w K mg base N_ring_of "ring_of" (defScope (top 21)) (He.ga K "ring_of") cdv A outer s H E).xe := passes_of (X := cxOf (L2.CX P w) P w K mg base N_ring_of "ring_of" (defScope (top 21)) (He.ga K "ring_of") cdv A outer s H E) rfl
  exact (dss_cons (ds_ret (de_fn h_ring_in (Room.mono hr (by decide)) rfl tk (da_cons (de_fn h_need_query (Room.mono hr (by decide)) rfl tk (da_cons (de_var (i := 0) rfl (by first | exact .inl rfl | exact .inr (.inl rfl) | exact .inr (.inr rfl))) da_nil) hK (fun h => Bool.noConfusion h) (lq_cons lq_nil)) da_nil) hK (fun h => Bool.noConfusion h) (lq_cons lq_nil)))
 dss_nil)
def B__law_row_right : SM :=
 (sSeq (sSet 1 (vFz (eTup (aCons (eTup (aCons (eC (.int 0)) (aCons (eC (.int 1)) aNil))) (aCons (eTup (aCons (eC (.int 1)) (aCons (eC (.int 2)) aNil))) (aCons (eTup (aCons (eC (.int 2)) (aCons (eC (.int 3)) aNil))) aNil))))))
 (sSeq (sSet 2 (vFz (eOf gTuple (aCons (eFz (fComp (iEn (eVar 1)) (gTupW (gsCons (setFz 6) (gsCons (setFz 7) gsNil))) tYesM (eTup (aCons (eVar 6) (aCons (eTup aNil) (aCons (eVar 7) (aCons (eVar 0) aNil))))) [6, 7])) aNil))))
 (sSeq (sIf (tVal (eBin gNe (eCall false F_room [] (aCons (eTup (aCons (eC (.int 4)) (aCons (eVar 1) (aCons (eVar 2) aNil)))) aNil)) (eTup (aCons (eBin gTimes (eC (.int 2)) (eVar 0)) (aCons (eC (.int 1)) aNil)))))
 (sSeq (sRet (eC (.bool false)))
 sNext)
 sNext)
 (sSeq (sSet 3 (vFz (eTup (aCons (eTup (aCons (eC (.int 0)) (aCons (eTup aNil) (aCons (eTup (aCons (eC (.int 0)) (aCons (eC (.int 1)) aNil))) (aCons (eVar 0) aNil))))) (aCons (eTup (aCons (eC (.int 1)) (aCons (eTup (aCons (eC (.int 1)) aNil)) (aCons (eTup (aCons (eC (.int 1)) (aCons (eC (.int 2)) aNil))) (aCons (eC (.int 0)) aNil))))) (aCons (eTup (aCons (eC (.int 2)) (aCons (eTup (aCons (eC (.int 2)) aNil)) (aCons (eTup (aCons (eC (.int 2)) (aCons (eC (.int 3)) aNil))) (aCons (eC (.int 0)) aNil))))) aNil))))))
 (sSeq (sIf (tOr (tVal (eBin gNe (eCall false F_room [] (aCons (eTup (aCons (eC (.int 4)) (aCons (eVar 1) (aCons (eVar 3) aNil)))) aNil)) (eTup (aCons (eVar 0) (aCons (eC (.int 1)) aNil))))) (tVal (eBin gIsNot (eCall false F_ring_of [] (aCons (eTup (aCons (eC (.int 4)) (aCons (eVar 1) (aCons (eVar 3) aNil)))) aNil)) (eC .none))))
 (sSeq (sRet (eC (.bool false)))
 sNext)
 sNext)
 (sSeq (sSet 4 (vFz (eBin gPlus (eCut (eVar 3) oNone (oSome (eC (.int 1)))) (eTup (aCons (eTup (aCons (eC (.int 1)) (aCons (eTup (aCons (eC (.int 1)) aNil)) (aCons (eTup (aCons (eC (.int 1)) (aCons (eC (.int 2)) aNil))) (aCons (eC (.int 2)) aNil))))) (aCons (eTup (aCons (eC (.int 2)) (aCons (eTup (aCons (eC (.int 2)) aNil)) (aCons (eTup (aCons (eC (.int 2)) (aCons (eC (.int 3)) aNil))) (aCons (eC (.int 3)) aNil))))) aNil))))))
 (sSeq (sIf (tVal (eBin gNe (eCall false F_room [] (aCons (eTup (aCons (eC (.int 4)) (aCons (eVar 1) (aCons (eVar 4) aNil)))) aNil)) (eTup (aCons (eBin gPlus (eVar 0) (eC (.int 5))) (aCons (eC (.int 1)) aNil)))))
 (sSeq (sRet (eC (.bool false)))
 sNext)
 sNext)
 (sSeq (sSet 5 (vFz (eTup (aCons (eTup (aCons (eC (.int 0)) (aCons (eTup aNil) (aCons (eTup (aCons (eC (.int 0)) (aCons (eC (.int 1)) aNil))) (aCons (eVar 0) aNil))))) (aCons (eTup (aCons (eC (.int 1)) (aCons (eTup aNil) (aCons (eTup (aCons (eC (.int 1)) (aCons (eC (.int 2)) aNil))) (aCons (eVar 0) aNil))))) (aCons (eTup (aCons (eC (.int 1)) (aCons (eTup (aCons (eC (.int 1)) aNil)) (aCons (eTup (aCons (eC (.int 1)) (aCons (eC (.int 2)) aNil))) (aCons (eC (.int 2)) aNil))))) (aCons (eTup (aCons (eC (.int 2)) (aCons (eTup (aCons (eC (.int 2)) aNil)) (aCons (eTup (aCons (eC (.int 2)) (aCons (eC (.int 3)) aNil))) (aCons (eC (.int 3)) aNil))))) aNil)))))))
 (sSeq (sRet (eBin gEq (eCall false F_room [] (aCons (eTup (aCons (eC (.int 4)) (aCons (eVar 1) (aCons (eVar 5) aNil)))) aNil)) (eTup (aCons (eBin gPlus (eBin gPlus (eVar 0) (eC (.int 3))) (eOf gMinA (aCons (eC (.int 2)) (aCons (eVar 0) aNil)))) (aCons (eC (.int 1)) aNil)))))
 sNext)))))))))
def F__law_row_right : FM := runB 8 B__law_row_right
abbrev N__law_row_right : List Str := ["_law_size", "_law_tables", "_law_facts", "_law_keys", "_law_degrees", "_law_both", "_law_table", "_law_lot"]
theorem sc__law_row_right : FnScope N__law_row_right ["_law_size"] (defScope (top 66)) := ⟨rfl, rfl, rfl, by decide +kernel, rfl, by decide +kernel, by decide +kernel⟩
theorem ok__law_row_right {P : Program} {w : World} {K : PySem.W.Frag} {mg : Str → Option Value} {base h : Heap} (KX : K.In h) (G : h.Ns mainGlobals mg) (c : He.SaysD fa fn K) (kt_SIZES : KTab K w (He.ga K "SIZES") tab_SIZES) : Has P w K mg base 8 "_law_row_right" ["_law_size"] (callP K false F__law_row_right 1) := by
  have h_ring_of : Has P w K mg base _ _ _ _ := ok_ring_of KX G c kt_SIZES
  have h_room : Has P w K mg base _ _ _ _ := ok_room KX G c kt_SIZES
  have g_enumerate := He.free_ok KX G (c.fact 16 (f := .free "enumerate") rfl)
  have g_min := He.free_ok KX G (c.fact 20 (f := .free "min") rfl)
  have g_tuple := He.free_ok KX G (c.fact 7 (f := .free "tuple") rfl)
  have nd := sc__law_row_right.nd
  obtain ⟨fd, Fd⟩ := c.def_ 44 (d := d__law_row_right) rfl
  refine ⟨fd, Fd.kp, FunD.bindsN Fd (fun _ _ _ _ _ _ us hl => match us, hl with | [_], _ => rfl), He.glo_ok KX G (c.fact 65 (f := .glo "_law_row_right") rfl), fn_ok Fd sc__law_row_right fun cdv A outer s H E hr Wx tk D hK hst => ?_⟩
  have hu := DL.hu_of hr
  have hp : PassesOwn (model P w) (A.deeper (envOfC "_law_row_right" (defScope (top 66)) s.heap.objs.size (He.ga K "_law_row_right") cdv)) (envOfC "_law_row_right" (defScope (top 66)) s.heap.objs.size (He.ga K "_law_row_right") cdv) (cxOf (L2.CX P w) P w K mg base N__law_row_right "_law_row_right" (defScope (top 66)) (He.ga K "_law_row_right") cdv A outer s H E).xe := passes_of (X := cxOf (L2.CX P w) P w K mg base N__law_row_right "_law_row_right" (defScope (top 66)) (He.ga K "_law_row_right") cdv A outer s H E) rfl
  exact (dss_cons (ds_set (i := 1) nd rfl (by first | exact .inl rfl | exact .inr rfl) (dv_fz (de_tup (da_cons (de_tup (da_cons de_int (da_cons de_int da_nil))) (da_cons (de_tup (da_cons de_int (da_cons de_int da_nil))) (da_cons (de_tup (da_cons de_int (da_cons de_int da_nil))) da_nil))))))
 (dss_cons (ds_set (i := 2) nd rfl (by first | exact .inl rfl | exact .inr rfl) (dv_fz (de_callTy (dc_tuple hK) rfl g_tuple bt_tuple (da_cons (de_fz (df_comp (own := [("_law_table", 6), ("_law_lot", 7)]) hK rfl nd (di_enum hK rfl g_enumerate (de_var (i := 1) rfl (by first | exact .inl rfl | exact .inr (.inl rfl) | exact .inr (.inr rfl)))) (blkOk_by (by rfl)) (fun _ _ _ _ _ D hK hS => (dg_tup hK rfl (dgs_cons (dg_name (i := 6) nd rfl (by first | exact .inl rfl | exact .inr rfl)) (dgs_cons (dg_name (i := 7) nd rfl (by first | exact .inl rfl | exact .inr rfl)) dgs_nil)))) (fun _ _ _ _ _ D hK hS => pts0) (fun _ _ _ _ _ D hK hS => (de_tup (da_cons (de_var (i := 6) rfl (by first | exact .inl rfl | exact .inr (.inl rfl) | exact .inr (.inr rfl))) (da_cons (de_tup da_nil) (da_cons (de_var (i := 7) rfl (by first | exact .inl rfl | exact .inr (.inl rfl) | exact .inr (.inr rfl))) (da_cons (de_var (i := 0) rfl (by first | exact .inl rfl | exact .inr (.inl rfl) | exact .inr (.inr rfl))) da_nil)))))) q_yes (q_tup (q_cons q_var (q_cons (q_tup q_nil) (q_cons q_var (q_cons q_var q_nil))))) (by decide))) da_nil))))
 (dss_cons (ds_if (dt_cmp (dop_ne hK (hu64 hu)) (de_fn h_room (Room.mono hr (by decide)) rfl tk (da_cons (de_tup (da_cons de_int (da_cons (de_var (i := 1) rfl (by first | exact .inl rfl | exact .inr (.inl rfl) | exact .inr (.inr rfl))) (da_cons (de_var (i := 2) rfl (by first | exact .inl rfl | exact .inr (.inl rfl) | exact .inr (.inr rfl))) da_nil)))) da_nil) hK (fun h => Bool.noConfusion h) (lq_cons lq_nil)) (de_tup (da_cons (de_op (dop_times hK) de_int (de_var (i := 0) rfl (by first | exact .inl rfl | exact .inr (.inl rfl) | exact .inr (.inr rfl)))) (da_cons de_int da_nil))) (nomark _))
 (dss_cons (ds_ret de_bl)
 dss_nil)
 dss_nil)
 (dss_cons (ds_set (i := 3) nd rfl (by first | exact .inl rfl | exact .inr rfl) (dv_fz (de_tup (da_cons (de_tup (da_cons de_int (da_cons (de_tup da_nil) (da_cons (de_tup (da_cons de_int (da_cons de_int da_nil))) (da_cons (de_var (i := 0) rfl (by first | exact .inl rfl | exact .inr (.inl rfl) | exact .inr (.inr rfl))) da_nil))))) (da_cons (de_tup (da_cons de_int (da_cons (de_tup (da_cons de_int da_nil)) (da_cons (de_tup (da_cons de_int (da_cons de_int da_nil))) (da_cons de_int da_nil))))) (da_cons (de_tup (da_cons de_int (da_cons (de_tup (da_cons de_int da_nil)) (da_cons (de_tup (da_cons de_int (da_cons de_int da_nil))) (da_cons de_int da_nil))))) da_nil))))))
 (dss_cons (ds_if (DW.pt (dw_or (dt_cmp (dop_ne hK (hu64 hu)) (de_fn h_room (Room.mono hr (by decide)) rfl tk (da_cons (de_tup (da_cons de_int (da_cons (de_var (i := 1) rfl (by first | exact .inl rfl | exact .inr (.inl rfl) | exact .inr (.inr rfl))) (da_cons (de_var (i := 3) rfl (by first | exact .inl rfl | exact .inr (.inl rfl) | exact .inr (.inr rfl))) da_nil)))) da_nil) hK (fun h => Bool.noConfusion h) (lq_cons lq_nil)) (de_tup (da_cons (de_var (i := 0) rfl (by first | exact .inl rfl | exact .inr (.inl rfl) | exact .inr (.inr rfl))) (da_cons de_int da_nil))) (nomark _)) (dw_or1 (dt_cmp dop_isnot (de_fn h_ring_of (Room.mono hr (by decide)) rfl tk (da_cons (de_tup (da_cons de_int (da_cons (de_var (i := 1) rfl (by first | exact .inl rfl | exact .inr (.inl rfl) | exact .inr (.inr rfl))) (da_cons (de_var (i := 3) rfl (by first | exact .inl rfl | exact .inr (.inl rfl) | exact .inr (.inr rfl))) da_nil)))) da_nil) hK (fun h => Bool.noConfusion h) (lq_cons lq_nil)) de_non (nomark _)))))
 (dss_cons (ds_ret de_bl)
 dss_nil)
 dss_nil)
 (dss_cons (ds_set (i := 4) nd rfl (by first | exact .inl rfl | exact .inr rfl) (dv_fz (de_op (dop_plus hK (dop_add hK)) (de_cut hK (de_var (i := 3) rfl (by first | exact .inl rfl | exact .inr (.inl rfl) | exact .inr (.inr rfl))) do_none (do_some de_int)) (de_tup (da_cons (de_tup (da_cons de_int (da_cons (de_tup (da_cons de_int da_nil)) (da_cons (de_tup (da_cons de_int (da_cons de_int da_nil))) (da_cons de_int da_nil))))) (da_cons (de_tup (da_cons de_int (da_cons (de_tup (da_cons de_int da_nil)) (da_cons (de_tup (da_cons de_int (da_cons de_int da_nil))) (da_cons de_int da_nil))))) da_nil))))))
 (dss_cons (ds_if (dt_cmp (dop_ne hK (hu64 hu)) (de_fn h_room (Room.mono hr (by decide)) rfl tk (da_cons (de_tup (da_cons de_int (da_cons (de_var (i := 1) rfl (by first | exact .inl rfl | exact .inr (.inl rfl) | exact .inr (.inr rfl))) (da_cons (de_var (i := 4) rfl (by first | exact .inl rfl | exact .inr (.inl rfl) | exact .inr (.inr rfl))) da_nil)))) da_nil) hK (fun h => Bool.noConfusion h) (lq_cons lq_nil)) (de_tup (da_cons (de_op (dop_plus hK (dop_add hK)) (de_var (i := 0) rfl (by first | exact .inl rfl | exact .inr (.inl rfl) | exact .inr (.inr rfl))) de_int) (da_cons de_int da_nil))) (nomark _))
 (dss_cons (ds_ret de_bl)
 dss_nil)
 dss_nil)
 (dss_cons (ds_set (i := 5) nd rfl (by first | exact .inl rfl | exact .inr rfl) (dv_fz (de_tup (da_cons (de_tup (da_cons de_int (da_cons (de_tup da_nil) (da_cons (de_tup (da_cons de_int (da_cons de_int da_nil))) (da_cons (de_var (i := 0) rfl (by first | exact .inl rfl | exact .inr (.inl rfl) | exact .inr (.inr rfl))) da_nil))))) (da_cons (de_tup (da_cons de_int (da_cons (de_tup da_nil) (da_cons (de_tup (da_cons de_int (da_cons de_int da_nil))) (da_cons (de_var (i := 0) rfl (by first | exact .inl rfl | exact .inr (.inl rfl) | exact .inr (.inr rfl))) da_nil))))) (da_cons (de_tup (da_cons de_int (da_cons (de_tup (da_cons de_int da_nil)) (da_cons (de_tup (da_cons de_int (da_cons de_int da_nil))) (da_cons de_int da_nil))))) (da_cons (de_tup (da_cons de_int (da_cons (de_tup (da_cons de_int da_nil)) (da_cons (de_tup (da_cons de_int (da_cons de_int da_nil))) (da_cons de_int da_nil))))) da_nil)))))))
 (dss_cons (ds_ret (de_cmp (dop_eq hK (hu64 hu)) (de_fn h_room (Room.mono hr (by decide)) rfl tk (da_cons (de_tup (da_cons de_int (da_cons (de_var (i := 1) rfl (by first | exact .inl rfl | exact .inr (.inl rfl) | exact .inr (.inr rfl))) (da_cons (de_var (i := 5) rfl (by first | exact .inl rfl | exact .inr (.inl rfl) | exact .inr (.inr rfl))) da_nil)))) da_nil) hK (fun h => Bool.noConfusion h) (lq_cons lq_nil)) (de_tup (da_cons (de_op (dop_plus hK (dop_add hK)) (de_op (dop_plus hK (dop_add hK)) (de_var (i := 0) rfl (by first | exact .inl rfl | exact .inr (.inl rfl) | exact .inr (.inr rfl))) de_int) (de_callB (dc_minA hK rfl hu) rfl g_min bt_min (da_cons de_int (da_cons (de_var (i := 0) rfl (by first | exact .inl rfl | exact .inr (.inl rfl) | exact .inr (.inr rfl))) da_nil)))) (da_cons de_int da_nil))) (nomark _)))
 dss_nil)))))))))
def B_law : SM :=
 (sSeq (sSet 1 (vFz (eCall true F__law_begin [] (aCons (eVar 0) aNil))))
 (sSeq (sSet 2 (vFz (eBin gPlus (eC (.int 1)) (eCall true F__law_draw [] (aCons (eVar 1) (aCons (eC (.int 20)) aNil))))))
 (sSeq (sRet (eAnd (eCall false F__law_ring_right [] (aCons (eVar 2) aNil)) (eAnd (eCall false F__law_ring_right [] (aCons (eC (.int 1)) aNil)) (eCall false F__law_row_right [] (aCons (eVar 2) aNil)))))
 sNext)))
def F_law : FM := runB 3 B_law
abbrev N_law : List Str := ["_law_script", "_law_state", "_law_size"]
theorem sc_law : FnScope N_law ["_law_script"] (defScope (top 67)) := ⟨rfl, rfl, rfl, by decide +kernel, rfl, by decide +kernel, by decide +kernel⟩
theorem law_at {P : Program} {w : World} {K : PySem.W.Frag} {mg : Str → Option Value} {h : Heap} (KX : K.In h) (G : h.Ns mainGlobals mg) (c : He.SaysD fa fn K) (kt_SIZES : KTab K w (He.ga K "SIZES") tab_SIZES) : ∃ fd : FuncData, (∀ (s : Shared) (u : Value), BindsTo s fd ⟨[u], []⟩ [("_law_script", u)]) ∧ mg "law" = some (.ref (He.ga K "law")) ∧ ∀ base : Heap, FnOk P w K mg base (L2.CX P w) 9 (He.ga K "law") fd ["_law_script"] (callP K true F_law 1) := by
  obtain ⟨fd, Fd⟩ := c.def_ 45 (d := d_law) rfl
  have gl := He.glo_ok KX G (c.fact 66 (f := .glo "law") rfl)
  refine ⟨fd, fun s v => FunD.bindsA (ps := ["_law_script"]) Fd (fun _ _ _ _ _ _ us hl => match us, hl with | [_], _ => rfl) s [v] rfl, gl, fun base => ?_⟩
  have h__law_begin : Has P w K mg base _ _ _ _ := ok__law_begin KX G c kt_SIZES
  have h__law_draw : Has P w K mg base _ _ _ _ := ok__law_draw KX G c kt_SIZES
  have h__law_ring_right : Has P w K mg base _ _ _ _ := ok__law_ring_right KX G c kt_SIZES
  have h__law_row_right : Has P w K mg base _ _ _ _ := ok__law_row_right KX G c kt_SIZES
  have nd := sc_law.nd
  refine fn_ok Fd sc_law fun cdv A outer s H E hr Wx tk D hK hst => ?_
  replace hst : D.st = true := hst rfl
  have hu := DL.hu_of hr
  have hp : PassesOwn (model P w) (A.deeper (envOfC "law" (defScope (top 67)) s.heap.objs.size (He.ga K "law") cdv)) (envOfC "law" (defScope (top 67)) s.heap.objs.size (He.ga K "law") cdv) (cxOf (L2.CX P w) P w K mg base N_law "law" (defScope (top 67)) (He.ga K "law") cdv A outer s H E).xe := passes_of (X := cxOf (L2.CX P w) P w K mg base N_law "law" (defScope (top 67)) (He.ga K "law") cdv A outer s H E) rfl
  exact (dss_cons (ds_set (i := 1) nd rfl (by first | exact .inl rfl | exact .inr rfl) (dv_fz (de_fn h__law_begin (Room.mono hr (by decide)) rfl tk (da_cons (de_var (i := 0) rfl (by first | exact .inl rfl | exact .inr (.inl rfl) | exact .inr (.inr rfl))) da_nil) hK (fun _ => hst) (lq_cons lq_nil))))
 (dss_cons (ds_set (i := 2) nd rfl (by first | exact .inl rfl | exact .inr rfl) (dv_fz (de_op (dop_plus hK (dop_add hK)) de_int (de_fn h__law_draw (Room.mono hr (by decide)) rfl tk (da_cons (de_var (i := 1) rfl (by first | exact .inl rfl | exact .inr (.inl rfl) | exact .inr (.inr rfl))) (da_cons de_int da_nil)) hK (fun _ => hst) (lq_cons (lq_cons lq_nil))))))
 (dss_cons (ds_ret (de_and (de_fn h__law_ring_right (Room.mono hr (by decide)) rfl tk (da_cons (de_var (i := 2) rfl (by first | exact .inl rfl | exact .inr (.inl rfl) | exact .inr (.inr rfl))) da_nil) hK (fun h => Bool.noConfusion h) (lq_cons lq_nil)) (de_and (de_fn h__law_ring_right (Room.mono hr (by decide)) rfl tk (da_cons de_int da_nil) hK (fun h => Bool.noConfusion h) (lq_cons lq_nil)) (de_one (de_fn h__law_row_right (Room.mono hr (by decide)) rfl tk (da_cons (de_var (i := 2) rfl (by first | exact .inl rfl | exact .inr (.inl rfl) | exact .inr (.inr rfl))) da_nil) hK (fun h => Bool.noConfusion h) (lq_cons lq_nil))))))
 dss_nil)))
def ts : List Tb := [("SIZES", tab_SIZES)]
end G
namespace G
open PySem PySem.Spec PyProof.Rows L2 DL
theorem mixed_run (c k : Int) (h0 : 0 ≤ k) (h1 : k ≤ 1000000) : ∃ v : Int, F__law_mixed [.int c, .int k] [] = .ok (.int v) ⟨[], []⟩ ∧ 0 ≤ v ∧ v < 2147483629 := by
  have c0 : 0 ≤ c % 2147483647 := Int.emod_nonneg _ (by decide)
  have c1 : c % 2147483647 < 2147483647 := Int.emod_lt_of_pos _ (by decide)
  have kk : 2 * k * k ≤ 2000000000000 := by
    have : k * k ≤ 1000000 * 1000000 := Int.mul_le_mul h1 h1 h0 (by decide)
    have e : 2 * k * k = 2 * (k * k) := Int.mul_assoc ..
    omega
  have kk0 : 0 ≤ 2 * k * k := Int.mul_nonneg (by omega) h0
  refine ⟨(((c % 2147483647) * (48271 + 2 * k * k) + 69621 * k + 11) % 2147483647 * 69621) % 2147483629, ?_, Int.emod_nonneg _ (by decide), Int.emod_lt_of_pos _ (by decide)⟩
  have d0 : 0 ≤ ((c % 2147483647) * (48271 + 2 * k * k) + 69621 * k + 11) % 2147483647 := Int.emod_nonneg _ (by decide)
  have d1 : ((c % 2147483647) * (48271 + 2 * k * k) + 69621 * k + 11) % 2147483647 < 2147483647 := Int.emod_lt_of_pos _ (by decide)
  have main : (eBin gModI (eBin gTimes (eBin gModI (eBin gPlus (eBin gPlus (eBin gTimes (eVar 0) (eBin gPlus (eC (.int 48271)) (eBin gTimes (eBin gTimes (eC (.int 2)) (eVar 1)) (eVar 1)))) (eBin gTimes (eC (.int 69621)) (eVar 1))) (eC (.int 11))) (eC (.int 2147483647))) (eC (.int 69621))) (eC (.int 2147483629))) ⟨[some (.fz (.int (c % 2147483647))), some (.fz (.int k))], []⟩ = .ok (.int ((((c % 2147483647) * (48271 + 2 * k * k) + 69621 * k + 11) % 2147483647 * 69621) % 2147483629)) ⟨[some (.fz (.int (c % 2147483647))), some (.fz (.int k))], []⟩ :=
    eBin_ok (eBin_ok (eBin_ok (eBin_ok (eBin_ok (eBin_ok rfl (eBin_ok rfl (eBin_ok (eBin_ok rfl rfl (gTimes_ok (by decide) (by decide) h0 (by omega))) rfl (gTimes_ok (by omega) (by omega) h0 (by omega))) gPlus_ok) (gTimes_ok c0 (by omega) (by omega) (by omega))) (eBin_ok rfl rfl (gTimes_ok (by decide) (by decide) h0 (by omega))) gPlus_ok) rfl gPlus_ok) rfl (gMod_ok (by decide))) rfl (gTimes_ok d0 (by omega) (by decide) (by decide))) rfl (gMod_ok (by decide))
  unfold F__law_mixed runB B__law_mixed
  have e1 : (sSet 0 (vFz (eBin gModI (eOf gInt (aCons (eVar 0) aNil)) (eC (.int 2147483647))))) ⟨[some (.fz (.int c)), some (.fz (.int k))], []⟩ = .ok .next ⟨[some (.fz (.int (c % 2147483647))), some (.fz (.int k))], []⟩ := rfl
  show (match sSeq (sSet 0 _) _ ⟨[some (.fz (.int c)), some (.fz (.int k))], []⟩ with
    | .ok (.ret w) m => R.ok w ⟨[], m.cells⟩
    | .ok .next m => .ok .none ⟨[], m.cells⟩
    | .ok .brk _ => .bad
    | .ok .cont _ => .bad
    | .err c fs m => .err c fs ⟨[], m.cells⟩
    | .bad => .bad) = _
  have e2 : (sSeq (sSet 0 (vFz (eBin gModI (eOf gInt (aCons (eVar 0) aNil)) (eC (.int 2147483647))))) (sSeq (sRet (eBin gModI (eBin gTimes (eBin gModI (eBin gPlus (eBin gPlus (eBin gTimes (eVar 0) (eBin gPlus (eC (.int 48271)) (eBin gTimes (eBin gTimes (eC (.int 2)) (eVar 1)) (eVar 1)))) (eBin gTimes (eC (.int 69621)) (eVar 1))) (eC (.int 11))) (eC (.int 2147483647))) (eC (.int 69621))) (eC (.int 2147483629)))) sNext)) ⟨[some (.fz (.int c)), some (.fz (.int k))], []⟩ = .ok (.ret (.int ((((c % 2147483647) * (48271 + 2 * k * k) + 69621 * k + 11) % 2147483647 * 69621) % 2147483629))) ⟨[some (.fz (.int (c % 2147483647))), some (.fz (.int k))], []⟩ := by
    show (sSeq (sRet _) sNext) ⟨[some (.fz (.int (c % 2147483647))), some (.fz (.int k))], []⟩ = _
    unfold sSeq sRet
    rw [main]
    rfl
  rw [e2]

theorem draw_run {k : Nat} {cells : List Cell} {cs ls : List Int} {a r many : Int} (hk : cells[k]? = some (.draw cs ls a r)) (hcs : 0 < cs.length) (hl : ls.length = cs.length) (ha : 0 ≤ a) (ha2 : a ≤ 900000) (hm : 0 < many) (hm2 : many < 1000000000000) :
    ∃ (d : Int) (ls' : List Int), F__law_draw [hnd k, .int many] cells = .ok (.int d) ⟨[], cells.set k (.draw cs ls' (a + 1) r)⟩ ∧ 0 ≤ d ∧ d < many ∧ ls'.length = cs.length := by
  have hkl : k < cells.length := by
    rcases Nat.lt_or_ge k cells.length with h | h
    · exact h
    · rw [List.getElem?_eq_none h] at hk; cases hk
  have hcl : (0 : Int) < (cs.length : Int) := by omega
  have p0 : 0 ≤ a % (cs.length : Int) := Int.emod_nonneg _ (by omega)
  have p1 : a % (cs.length : Int) < (cs.length : Int) := Int.emod_lt_of_pos _ hcl
  obtain ⟨x, hx⟩ := atI_ok (xs := ls) p0 (by rw [hl]; exact p1)
  obtain ⟨c, hc⟩ := atI_ok (xs := cs) p0 p1
  -- the states on the way
  generalize hc2 : cells.set k (.draw cs ls (a + 1) r) = cells2
  have hk2 : cells2[k]? = some (.draw cs ls (a + 1) r) := by rw [← hc2]; exact List.getElem?_set_self hkl
  have s1 : sSet 2 (vFz (eCAt 0)) ⟨[some (.fz (hnd k)), some (.fz (.int many)), none, none, none, none], cells⟩ = .ok .next ⟨[some (.fz (hnd k)), some (.fz (.int many)), some (.fz (.int a)), none, none, none], cells⟩ := sSet_ok (eCAt_ok (cellAt_eq rfl hk))
  have s2 : sCAt 0 (eBin gPlus (eVar 2) (eC (.int 1))) ⟨[some (.fz (hnd k)), some (.fz (.int many)), some (.fz (.int a)), none, none, none], cells⟩ = .ok .next ⟨[some (.fz (hnd k)), some (.fz (.int many)), some (.fz (.int a)), none, none, none], cells2⟩ := by
    rw [← hc2]
    exact sCAt_ok (eBin_ok (eVar_ok rfl) eC_ok gPlus_ok) (cellAt_eq rfl hk)
  have s3 : sSet 3 (vFz (eBin gModI (eOf gInt (aCons (eVar 2) aNil)) (eCLen 0))) ⟨[some (.fz (hnd k)), some (.fz (.int many)), some (.fz (.int a)), none, none, none], cells2⟩ = .ok .next ⟨[some (.fz (hnd k)), some (.fz (.int many)), some (.fz (.int a)), some (.fz (.int (a % (cs.length : Int)))), none, none], cells2⟩ :=
    sSet_ok (eBin_ok (eOf_ok (aCons_ok (eVar_ok rfl) aNil_ok) rfl) (eCLen_ok (cellAt_eq rfl hk2)) (gMod_ok hcl))
  have s4 : sSet 4 (vFz (eCLeft 0 (eVar 3))) ⟨[some (.fz (hnd k)), some (.fz (.int many)), some (.fz (.int a)), some (.fz (.int (a % (cs.length : Int)))), none, none], cells2⟩ = .ok .next ⟨[some (.fz (hnd k)), some (.fz (.int many)), some (.fz (.int a)), some (.fz (.int (a % (cs.length : Int)))), some (.fz (.int x)), none], cells2⟩ :=
    sSet_ok (eCLeft_ok (cellAt_eq rfl hk2) (eVar_ok rfl) hx)
  by_cases hpos : 0 < x
  · refine ⟨x % many, ls.set (a % (cs.length : Int)).toNat (x / many), ?_, Int.emod_nonneg _ (by omega), Int.emod_lt_of_pos _ hm, by rw [List.length_set]; exact hl⟩
    have s5 : tVal (eBin gGt (eVar 4) (eC (.int 0))) ⟨[some (.fz (hnd k)), some (.fz (.int many)), some (.fz (.int a)), some (.fz (.int (a % (cs.length : Int)))), some (.fz (.int x)), none], cells2⟩ = .ok true ⟨[some (.fz (hnd k)), some (.fz (.int many)), some (.fz (.int a)), some (.fz (.int (a % (cs.length : Int)))), some (.fz (.int x)), none], cells2⟩ :=
      tVal_ok (eBin_ok (eVar_ok rfl) eC_ok (by show some (PyData.bool (decide (0 < x))) = _; rw [decide_eq_true hpos]))
    have s6 : sCLeft 0 (eVar 3) (eBin gDivI (eVar 4) (eVar 1)) ⟨[some (.fz (hnd k)), some (.fz (.int many)), some (.fz (.int a)), some (.fz (.int (a % (cs.length : Int)))), some (.fz (.int x)), none], cells2⟩ = .ok .next ⟨[some (.fz (hnd k)), some (.fz (.int many)), some (.fz (.int a)), some (.fz (.int (a % (cs.length : Int)))), some (.fz (.int x)), none], cells.set k (.draw cs (ls.set (a % (cs.length : Int)).toNat (x / many)) (a + 1) r)⟩ := by
      have e := sCLeft_ok (m := ⟨[some (.fz (hnd k)), some (.fz (.int many)), some (.fz (.int a)), some (.fz (.int (a % (cs.length : Int)))), some (.fz (.int x)), none], cells2⟩) (i := 0) (b := eVar 3) (e := eBin gDivI (eVar 4) (eVar 1)) (eBin_ok (eVar_ok rfl) (eVar_ok rfl) (gDiv_ok hm (by omega))) (eVar_ok rfl) (cellAt_eq rfl hk2) (ixN_ok p0 (by rw [hl]; exact p1))
      rw [e, ← hc2]
      simp [List.set_set]
    refine runB_ret (m := ⟨[some (.fz (hnd k)), some (.fz (.int many)), some (.fz (.int a)), some (.fz (.int (a % (cs.length : Int)))), some (.fz (.int x)), none], cells.set k (.draw cs (ls.set (a % (cs.length : Int)).toNat (x / many)) (a + 1) r)⟩) ?_
    exact (sSeq_next s1).trans ((sSeq_next s2).trans ((sSeq_next s3).trans ((sSeq_next s4).trans (sSeq_ret ((sIf_t s5).trans ((sSeq_next s6).trans (sSeq_ret (sRet_ok (eBin_ok (eOf_ok (aCons_ok (eVar_ok rfl) aNil_ok) rfl) (eVar_ok rfl) (gMod_ok hm))))))))))
  · obtain ⟨v1, e1, v10, v11⟩ := mixed_run c a ha (by omega)
    obtain ⟨v2, e2, v20, v21⟩ := mixed_run v1 (40 + a) (by omega) (by omega)
    obtain ⟨v3, e3, v30, v31⟩ := mixed_run v2 (7 + a) (by omega) (by omega)
    refine ⟨((v2 * 2147483647 + v3) / 64) % many, ls, ?_, Int.emod_nonneg _ (by omega), Int.emod_lt_of_pos _ hm, hl⟩
    have s5 : tVal (eBin gGt (eVar 4) (eC (.int 0))) ⟨[some (.fz (hnd k)), some (.fz (.int many)), some (.fz (.int a)), some (.fz (.int (a % (cs.length : Int)))), some (.fz (.int x)), none], cells2⟩ = .ok false ⟨[some (.fz (hnd k)), some (.fz (.int many)), some (.fz (.int a)), some (.fz (.int (a % (cs.length : Int)))), some (.fz (.int x)), none], cells2⟩ :=
      tVal_ok (eBin_ok (eVar_ok rfl) eC_ok (by show some (PyData.bool (decide (0 < x))) = _; rw [decide_eq_false hpos]))
    have s6 : sSet 5 (vFz (eCall false F__law_mixed [] (aCons (eCall false F__law_mixed [] (aCons (eCCell 0 (eVar 3)) (aCons (eVar 2) aNil))) (aCons (eBin gPlus (eC (.int 40)) (eVar 2)) aNil)))) ⟨[some (.fz (hnd k)), some (.fz (.int many)), some (.fz (.int a)), some (.fz (.int (a % (cs.length : Int)))), some (.fz (.int x)), none], cells2⟩ = .ok .next ⟨[some (.fz (hnd k)), some (.fz (.int many)), some (.fz (.int a)), some (.fz (.int (a % (cs.length : Int)))), some (.fz (.int x)), some (.fz (.int v2))], cells2⟩ :=
      sSet_ok (eCall_okF (aCons_ok (eCall_okF (aCons_ok (eCCell_ok (cellAt_eq rfl hk2) (eVar_ok rfl) hc) (aCons_ok (eVar_ok rfl) aNil_ok)) e1) (aCons_ok (eBin_ok eC_ok (eVar_ok rfl) gPlus_ok) aNil_ok)) e2)
    rw [hc2]
    refine runB_ret (m := ⟨[some (.fz (hnd k)), some (.fz (.int many)), some (.fz (.int a)), some (.fz (.int (a % (cs.length : Int)))), some (.fz (.int x)), some (.fz (.int v2))], cells2⟩) ?_
    refine (sSeq_next s1).trans ((sSeq_next s2).trans ((sSeq_next s3).trans ((sSeq_next s4).trans ?_)))
    have e5 : sIf (tVal (eBin gGt (eVar 4) (eC (.int 0)))) (sSeq (sCLeft 0 (eVar 3) (eBin gDivI (eVar 4) (eVar 1))) (sSeq (sRet (eBin gModI (eOf gInt (aCons (eVar 4) aNil)) (eVar 1))) sNext)) sNext ⟨[some (.fz (hnd k)), some (.fz (.int many)), some (.fz (.int a)), some (.fz (.int (a % (cs.length : Int)))), some (.fz (.int x)), none], cells2⟩ = .ok .next ⟨[some (.fz (hnd k)), some (.fz (.int many)), some (.fz (.int a)), some (.fz (.int (a % (cs.length : Int)))), some (.fz (.int x)), none], cells2⟩ := by
      rw [sIf_f s5]
      rfl
    refine (sSeq_next e5).trans ((sSeq_next s6).trans ?_)
    refine sSeq_ret (sRet_ok (eBin_ok (eBin_ok (eOf_ok (aCons_ok (eBin_ok (eBin_ok (eVar_ok rfl) eC_ok (gTimes_ok v20 (by omega) (by decide) (by decide))) (eCall_okF (aCons_ok (eVar_ok rfl) (aCons_ok (eBin_ok eC_ok (eVar_ok rfl) gPlus_ok) aNil_ok)) e3) gPlus_ok) aNil_ok) rfl) eC_ok (gDiv_ok (by decide) (by decide))) (eVar_ok rfl) (gMod_ok hm)))
end G
namespace G
open PySem PySem.Spec PyProof.Rows L2 DL
theorem ints_lay : ∀ ns : List Int, PyData.canLayAll0 (ns.map PyData.int) = true
  | [] => rfl
  | n :: ns => by
    show PyData.canLayAll0 (PyData.int n :: ns.map PyData.int) = true
    rw [PyData.canLayAll0, ints_lay ns]
    rfl
theorem gNe_nil (ns : List Int) : gNe (.list (ns.map .int)) (.list []) = some (.bool (!ns.isEmpty)) := by
  have e : eqW (.list (ns.map PyData.int)) (.list []) = some ns.isEmpty := by
    show (if ((PyData.list (ns.map PyData.int)).canLay0 && (PyData.list []).canLay0 && shallow (.list (ns.map PyData.int)) (.list [])) = true then some (PyData.eqv (.list (ns.map PyData.int)) (.list [])) else none) = _
    have h1 : (PyData.list (ns.map PyData.int)).canLay0 = true := by simpa [PyData.canLay0] using ints_lay ns
    have h2 : shallow (.list (ns.map PyData.int)) (.list []) = true := by
      unfold shallow
      rw [Bool.or_eq_true]
      right
      decide
    rw [h1, h2, if_pos (by decide)]
    cases ns with
    | nil => simp [PyData.eqv, PyData.eqvAll]
    | cons n ns => simp [PyData.eqv, PyData.eqvAll]
  unfold gNe
  rw [e]
  rfl
def leftsOf (cs : List Int) : List Int := cs.map fun x => if (1000000000000000000 : Int) ≤ x then x else 0
def elB : EM := eIf (tVal (eBin gGe (eVar 2) (eBin gPow (eC (.int 10)) (eC (.int 18))))) (eVar 2) (eC (.int 0))
theorem el_run (a b : Option Sl) (x : Int) (cells : List Cell) : elB ⟨[a, b, some (.fz (.int x))], cells⟩ = .ok (.int (if (1000000000000000000 : Int) ≤ x then x else 0)) ⟨[a, b, some (.fz (.int x))], cells⟩ := by
  have e : tVal (eBin gGe (eVar 2) (eBin gPow (eC (.int 10)) (eC (.int 18)))) ⟨[a, b, some (.fz (.int x))], cells⟩ = .ok (decide ((1000000000000000000 : Int) ≤ x)) ⟨[a, b, some (.fz (.int x))], cells⟩ :=
    tVal_ok (eBin_ok (eVar_ok rfl) (eBin_ok (w := .int 1000000000000000000) eC_ok eC_ok rfl) rfl)
  unfold elB eIf
  rw [e]
  by_cases h : (1000000000000000000 : Int) ≤ x
  · show (if decide ((1000000000000000000 : Int) ≤ x) = true then _ else _) = _
    rw [decide_eq_true h, if_pos rfl, if_pos h]
    rfl
  · show (if decide ((1000000000000000000 : Int) ≤ x) = true then _ else _) = _
    rw [decide_eq_false h, if_neg (by decide), if_neg h]
    rfl
theorem comp_run (a b : Option Sl) (cells : List Cell) : ∀ cs : List Int, compGo (setFz 2) tYesM elB [a, b, none] (cs.map PyData.int) cells = some ((leftsOf cs).map PyData.int, cells)
  | [] => rfl
  | x :: cs => by
    show (match elB ⟨[a, b, some (.fz (.int x))], cells⟩ with
      | .ok y m4 => match compGo (setFz 2) tYesM elB [a, b, none] (cs.map PyData.int) m4.cells with
        | some (ys, cs') => some (y :: ys, cs')
        | none => none
      | _ => none) = _
    rw [el_run]
    show (match compGo (setFz 2) tYesM elB [a, b, none] (cs.map PyData.int) cells with
        | some (ys, cs') => some (_ :: ys, cs')
        | none => none) = _
    rw [comp_run a b cells cs]
    rfl
theorem lfs_ints : ∀ ns : List Int, lf.lfs (ns.map PyData.int) = true
  | [] => rfl
  | n :: ns => by
    show (true && lf.lfs (ns.map PyData.int)) = true
    rw [lfs_ints ns]
    rfl
theorem begin_run (ns : List Int) (hz : ns.length ≤ 63) : ∃ cs : List Int, F__law_begin [.list (ns.map .int)] [] = .ok (hnd 0) ⟨[], [.draw cs (leftsOf cs) 0 0]⟩ ∧ 0 < cs.length ∧ cs.length ≤ 63 ∧ (leftsOf cs).length = cs.length := by
  refine ⟨if ns.isEmpty = true then [0] else ns, ?_, ?_, ?_, by simp [leftsOf]⟩
  · generalize hcs : (if ns.isEmpty = true then [0] else ns) = cs
    have s1 : (sSet 1 (vOw (fIf (tVal (eBin gNe (eVar 0) (eFz (fLst aNil)))) (fOf gListA (aCons (eVar 0) aNil)) (fLst (aCons (eC (.int 0)) aNil))))) ⟨[some (.fz (.list (ns.map .int))), none, none], []⟩ = .ok .next ⟨[some (.fz (.list (ns.map .int))), some (.ow (cs.map .int)), none], []⟩ := by
      have t : tVal (eBin gNe (eVar 0) (eFz (fLst aNil))) ⟨[some (.fz (.list (ns.map .int))), none, none], []⟩ = .ok (!ns.isEmpty) ⟨[some (.fz (.list (ns.map .int))), none, none], []⟩ :=
        tVal_ok (eBin_ok (eVar_ok rfl) (m2 := ⟨[some (.fz (.list (ns.map .int))), none, none], []⟩) (y := .list []) rfl (gNe_nil ns))
      unfold sSet vOw fIf
      rw [t]
      subst hcs
      cases ns with
      | nil => rfl
      | cons n ns => rfl
    have hl : cs.length ≤ 63 := by
      rw [← hcs]
      split
      · decide
      · exact hz
    have s2 : sBegin 1 (fHold 1 (fComp (iS (eVar 1)) (setFz 2) tYesM elB [2])) ⟨[some (.fz (.list (ns.map .int))), some (.ow (cs.map .int)), none], []⟩ = .ok (.ret (hnd 0)) ⟨[none, none, none], [.draw cs (leftsOf cs) 0 0]⟩ := by
      have e1 : fComp (iS (eVar 1)) (setFz 2) tYesM elB [2] ⟨[some (.fz (.list (ns.map .int))), some (.fz (.list (cs.map .int))), none], []⟩ = .ok ((leftsOf cs).map PyData.int) ⟨[some (.fz (.list (ns.map .int))), some (.fz (.list (cs.map .int))), none], []⟩ := by
        show (match compGo (setFz 2) tYesM elB [some (.fz (.list (ns.map .int))), some (.fz (.list (cs.map .int))), none] (cs.map PyData.int) [] with
          | some (ys, cs') => if szOk ys.length = true then R.ok ys ⟨[some (.fz (.list (ns.map .int))), some (.fz (.list (cs.map .int))), none], cs'⟩ else .bad
          | none => .bad) = _
        rw [comp_run]
        show (if szOk ((leftsOf cs).map PyData.int).length = true then _ else _) = _
        rw [if_pos ?_]
        unfold szOk
        refine Nat.ble_eq_true_of_le ?_
        simp [leftsOf]
        omega
      have e2 : fHold 1 (fComp (iS (eVar 1)) (setFz 2) tYesM elB [2]) ⟨[some (.fz (.list (ns.map .int))), some (.ow (cs.map .int)), none], []⟩ = .ok ((leftsOf cs).map PyData.int) ⟨[some (.fz (.list (ns.map .int))), some (.ow (cs.map .int)), none], []⟩ := by
        show (match fComp (iS (eVar 1)) (setFz 2) tYesM elB [2] ⟨[some (.fz (.list (ns.map .int))), some (.fz (.list (cs.map .int))), none], []⟩ with
          | .ok ws m' => if (lf.lfs ws && heldOk [some (.fz (.list (ns.map .int))), some (.ow (cs.map .int)), none] 1 m'.cells) = true then R.ok ws { m' with env := [some (.fz (.list (ns.map .int))), some (.ow (cs.map .int)), none] } else .bad
          | _ => .bad) = _
        rw [e1]
        show (if (lf.lfs ((leftsOf cs).map PyData.int) && _) = true then _ else _) = _
        rw [lfs_ints]
        rfl
      show (R.bind (fHold 1 (fComp (iS (eVar 1)) (setFz 2) tYesM elB [2]) ⟨[some (.fz (.list (ns.map .int))), some (.ow (cs.map .int)), none], []⟩) _) = _
      rw [e2]
      show (match intsOf (cs.map PyData.int), intsOf ((leftsOf cs).map PyData.int) with
        | some a, some b => R.ok (Fl.ret (hnd 0)) (⟨[none, none, none], [.draw a b 0 0]⟩ : MS)
        | _, _ => .bad) = _
      rw [intsOf_map, intsOf_map]
    exact runB_ret (m := ⟨[none, none, none], [.draw cs (leftsOf cs) 0 0]⟩) ((sSeq_next s1).trans (sSeq_ret s2))
  · split
    · decide
    · rename_i h
      cases ns with
      | nil => simp at h
      | cons n ns => simp
  · split
    · decide
    · exact hz
end G
namespace G
open PySem PySem.Spec PyProof.Rows L2 DL
def okB : R W → Bool
  | .ok (.bool true) ⟨[], []⟩ => true
  | _ => false
theorem row_0 : okB (F__law_row_right [.int (1 + ((0 : Nat) : Int))] []) = true := by decide +kernel
theorem row_1 : okB (F__law_row_right [.int (1 + ((1 : Nat) : Int))] []) = true := by decide +kernel
theorem row_2 : okB (F__law_row_right [.int (1 + ((2 : Nat) : Int))] []) = true := by decide +kernel
theorem row_3 : okB (F__law_row_right [.int (1 + ((3 : Nat) : Int))] []) = true := by decide +kernel
theorem row_4 : okB (F__law_row_right [.int (1 + ((4 : Nat) : Int))] []) = true := by decide +kernel
theorem row_5 : okB (F__law_row_right [.int (1 + ((5 : Nat) : Int))] []) = true := by decide +kernel
theorem row_6 : okB (F__law_row_right [.int (1 + ((6 : Nat) : Int))] []) = true := by decide +kernel
theorem row_7 : okB (F__law_row_right [.int (1 + ((7 : Nat) : Int))] []) = true := by decide +kernel
theorem row_8 : okB (F__law_row_right [.int (1 + ((8 : Nat) : Int))] []) = true := by decide +kernel
theorem row_9 : okB (F__law_row_right [.int (1 + ((9 : Nat) : Int))] []) = true := by decide +kernel
theorem row_10 : okB (F__law_row_right [.int (1 + ((10 : Nat) : Int))] []) = true := by decide +kernel
theorem row_11 : okB (F__law_row_right [.int (1 + ((11 : Nat) : Int))] []) = true := by decide +kernel
theorem row_12 : okB (F__law_row_right [.int (1 + ((12 : Nat) : Int))] []) = true := by decide +kernel
theorem row_13 : okB (F__law_row_right [.int (1 + ((13 : Nat) : Int))] []) = true := by decide +kernel
theorem row_14 : okB (F__law_row_right [.int (1 + ((14 : Nat) : Int))] []) = true := by decide +kernel
theorem row_15 : okB (F__law_row_right [.int (1 + ((15 : Nat) : Int))] []) = true := by decide +kernel
theorem row_16 : okB (F__law_row_right [.int (1 + ((16 : Nat) : Int))] []) = true := by decide +kernel
theorem row_17 : okB (F__law_row_right [.int (1 + ((17 : Nat) : Int))] []) = true := by decide +kernel
theorem row_18 : okB (F__law_row_right [.int (1 + ((18 : Nat) : Int))] []) = true := by decide +kernel
theorem row_19 : okB (F__law_row_right [.int (1 + ((19 : Nat) : Int))] []) = true := by decide +kernel
theorem row_all : ∀ d : Fin 20, okB (F__law_row_right [.int (1 + (d.val : Int))] []) = true := fun ⟨d, hd⟩ => match d, hd with
  | 0, _ => row_0
  | 1, _ => row_1
  | 2, _ => row_2
  | 3, _ => row_3
  | 4, _ => row_4
  | 5, _ => row_5
  | 6, _ => row_6
  | 7, _ => row_7
  | 8, _ => row_8
  | 9, _ => row_9
  | 10, _ => row_10
  | 11, _ => row_11
  | 12, _ => row_12
  | 13, _ => row_13
  | 14, _ => row_14
  | 15, _ => row_15
  | 16, _ => row_16
  | 17, _ => row_17
  | 18, _ => row_18
  | 19, _ => row_19
  | n + 20, h => absurd h (by omega)
theorem ring_0 : okB (F__law_ring_right [.int (1 + ((0 : Nat) : Int))] []) = true := by decide +kernel
theorem ring_1 : okB (F__law_ring_right [.int (1 + ((1 : Nat) : Int))] []) = true := by decide +kernel
theorem ring_2 : okB (F__law_ring_right [.int (1 + ((2 : Nat) : Int))] []) = true := by decide +kernel
theorem ring_3 : okB (F__law_ring_right [.int (1 + ((3 : Nat) : Int))] []) = true := by decide +kernel
theorem ring_4 : okB (F__law_ring_right [.int (1 + ((4 : Nat) : Int))] []) = true := by decide +kernel
theorem ring_5 : okB (F__law_ring_right [.int (1 + ((5 : Nat) : Int))] []) = true := by decide +kernel
theorem ring_6 : okB (F__law_ring_right [.int (1 + ((6 : Nat) : Int))] []) = true := by decide +kernel
theorem ring_7 : okB (F__law_ring_right [.int (1 + ((7 : Nat) : Int))] []) = true := by decide +kernel
theorem ring_8 : okB (F__law_ring_right [.int (1 + ((8 : Nat) : Int))] []) = true := by decide +kernel
theorem ring_9 : okB (F__law_ring_right [.int (1 + ((9 : Nat) : Int))] []) = true := by decide +kernel
theorem ring_10 : okB (F__law_ring_right [.int (1 + ((10 : Nat) : Int))] []) = true := by decide +kernel
theorem ring_11 : okB (F__law_ring_right [.int (1 + ((11 : Nat) : Int))] []) = true := by decide +kernel
theorem ring_12 : okB (F__law_ring_right [.int (1 + ((12 : Nat) : Int))] []) = true := by decide +kernel
theorem ring_13 : okB (F__law_ring_right [.int (1 + ((13 : Nat) : Int))] []) = true := by decide +kernel
theorem ring_14 : okB (F__law_ring_right [.int (1 + ((14 : Nat) : Int))] []) = true := by decide +kernel
theorem ring_15 : okB (F__law_ring_right [.int (1 + ((15 : Nat) : Int))] []) = true := by decide +kernel
theorem ring_16 : okB (F__law_ring_right [.int (1 + ((16 : Nat) : Int))] []) = true := by decide +kernel
theorem ring_17 : okB (F__law_ring_right [.int (1 + ((17 : Nat) : Int))] []) = true := by decide +kernel
theorem ring_18 : okB (F__law_ring_right [.int (1 + ((18 : Nat) : Int))] []) = true := by decide +kernel
theorem ring_19 : okB (F__law_ring_right [.int (1 + ((19 : Nat) : Int))] []) = true := by decide +kernel
theorem ring_all : ∀ d : Fin 20, okB (F__law_ring_right [.int (1 + (d.val : Int))] []) = true := fun ⟨d, hd⟩ => match d, hd with
  | 0, _ => ring_0
  | 1, _ => ring_1
  | 2, _ => ring_2
  | 3, _ => ring_3
  | 4, _ => ring_4
  | 5, _ => ring_5
  | 6, _ => ring_6
  | 7, _ => ring_7
  | 8, _ => ring_8
  | 9, _ => ring_9
  | 10, _ => ring_10
  | 11, _ => ring_11
  | 12, _ => ring_12
  | 13, _ => ring_13
  | 14, _ => ring_14
  | 15, _ => ring_15
  | 16, _ => ring_16
  | 17, _ => ring_17
  | 18, _ => ring_18
  | 19, _ => ring_19
  | n + 20, h => absurd h (by omega)
end G
namespace G
open PySem PySem.Spec PyProof.Rows L2 DL
theorem okB_eq {r : R W} (h : okB r = true) : r = .ok (.bool true) ⟨[], []⟩ := by
  unfold okB at h
  split at h
  · rfl
  · cases h
theorem at_size {F : FM} (h : ∀ d : Fin 20, okB (F [.int (1 + (d.val : Int))] []) = true) {d : Int} (h0 : 0 ≤ d) (h1 : d < 20) : F [.int (1 + d)] [] = .ok (.bool true) ⟨[], []⟩ := by
  have e := okB_eq (h ⟨d.toNat, by omega⟩)
  have e2 : ((d.toNat : Nat) : Int) = d := by omega
  simpa only [e2] using e
theorem eAnd_t {a b : EM} {m m1 : MS} {r : R W} (h : a m = .ok (.bool true) m1) (h2 : b m1 = r) : eAnd a b m = r := by
  unfold eAnd
  rw [h]
  exact h2
theorem law_true (ns : List Int) (hz : ns.length ≤ 63) : ∃ m, F_law [.list (ns.map .int)] [] = .ok (.bool true) m := by
  obtain ⟨cs, hb, h0, h1, hl⟩ := begin_run ns hz
  obtain ⟨d, ls, hd, d0, d1, _⟩ := draw_run (k := 0) (cells := [.draw cs (leftsOf cs) 0 0]) (many := 20) rfl h0 hl (by decide) (by decide) (by decide) (by decide)
  refine ⟨⟨[], [.draw cs ls 1 0]⟩, ?_⟩
  have s1 : sSet 1 (vFz (eCall true F__law_begin [] (aCons (eVar 0) aNil))) ⟨[some (.fz (.list (ns.map .int))), none, none], []⟩ = .ok .next ⟨[some (.fz (.list (ns.map .int))), some (.fz (hnd 0)), none], [.draw cs (leftsOf cs) 0 0]⟩ :=
    sSet_ok (m1 := ⟨[some (.fz (.list (ns.map .int))), none, none], [.draw cs (leftsOf cs) 0 0]⟩) (eCall_okT (m1 := ⟨[some (.fz (.list (ns.map .int))), none, none], []⟩) (m2 := ⟨[], [.draw cs (leftsOf cs) 0 0]⟩) (aCons_ok (eVar_ok rfl) aNil_ok) hb)
  have s2 : sSet 2 (vFz (eBin gPlus (eC (.int 1)) (eCall true F__law_draw [] (aCons (eVar 1) (aCons (eC (.int 20)) aNil))))) ⟨[some (.fz (.list (ns.map .int))), some (.fz (hnd 0)), none], [.draw cs (leftsOf cs) 0 0]⟩ = .ok .next ⟨[some (.fz (.list (ns.map .int))), some (.fz (hnd 0)), some (.fz (.int (1 + d)))], [.draw cs ls 1 0]⟩ :=
    sSet_ok (m1 := ⟨[some (.fz (.list (ns.map .int))), some (.fz (hnd 0)), none], [.draw cs ls 1 0]⟩) (eBin_ok (m1 := ⟨[some (.fz (.list (ns.map .int))), some (.fz (hnd 0)), none], [.draw cs (leftsOf cs) 0 0]⟩) (m2 := ⟨[some (.fz (.list (ns.map .int))), some (.fz (hnd 0)), none], [.draw cs ls 1 0]⟩) eC_ok
      (eCall_okT (m1 := ⟨[some (.fz (.list (ns.map .int))), some (.fz (hnd 0)), none], [.draw cs (leftsOf cs) 0 0]⟩) (m2 := ⟨[], [.draw cs ls 1 0]⟩) (aCons_ok (eVar_ok rfl) (aCons_ok eC_ok aNil_ok)) hd) gPlus_ok)
  have r1 := at_size ring_all d0 d1
  have r2 : F__law_ring_right [.int 1] [] = .ok (.bool true) ⟨[], []⟩ := at_size (d := 0) ring_all (by decide) (by decide)
  have r3 := at_size row_all d0 d1
  refine runB_ret (m := ⟨[some (.fz (.list (ns.map .int))), some (.fz (hnd 0)), some (.fz (.int (1 + d)))], [.draw cs ls 1 0]⟩) ?_
  refine (sSeq_next s1).trans ((sSeq_next s2).trans (sSeq_ret (sRet_ok ?_)))
  exact eAnd_t (eCall_okF (aCons_ok (eVar_ok rfl) aNil_ok) r1) (eAnd_t (eCall_okF (aCons_ok eC_ok aNil_ok) r2) (eCall_okF (aCons_ok (eVar_ok rfl) aNil_ok) r3))
end G
namespace GH
open PySem PySem.Spec PyProof.Rows L2 DL G
abbrev R : PySem.W.OpenRow := PySem.W.OpenLaw.row PySem.Challenge.rw_answerrooms_k07_rooms_by_hand
abbrev hk : PySem.W.Hook := hookW 4 fa fn ts
def ob (s : PySem.W.SharedT) : AlW := obsWG 4 fa fn ts (HandSHeadRun.getT s)
theorem ob_eq (s : PySem.W.SharedT) : ob s = hk.obs s.abs := obsWG_eq (HandSHeadRun.getT_eq s)
abbrev lo0 : List Str := ["__name__", "RoomError", "BadQuery", "BadPaper", "Ringed", "MOST_COLUMNS", "MOST_TABLES", "MOST_FACTS", "MOST_EXPONENT", "is_integer", "is_between", "is_rising", "is_lot", "is_part_of", "are_tables", "is_fact", "need_query", "fresh_of", "leads_of", "ring_in", "ring_of", "need_even", "first_rows", "exchanged", "line_behind", "spot_of", "row_of", "solved", "solved_by", "divisor_of"]
abbrev lo1 : List Str := ["lowest", "lowered", "PRODUCT", "bare_in", "are_counts", "is_product_of", "need_product", "value_in", "product_value", "best_in", "best_product", "WEIGHTS", "are_weights_of", "need_weights", "heft_in", "least_in", "best_weights", "ROOM", "ENDLESS", "FORM", "VALUE", "SIZES", "room_in", "room", "judged_in", "check_room", "_law_mixed", "_law_begin", "_law_draw", "_law_ring_right"]
abbrev lo2 : List Str := ["_law_row_right"]
abbrev loose : List Str := lo0 ++ lo1 ++ lo2
theorem run_false (w : World) : HandSHeadRun.RunEq R (PySem.W.view R.prog [67]) hk ob 4000 loose (w.withFollow "special-get-raises" false) := by
  intro os
  kernel_rfl
theorem run_true (w : World) : HandSHeadRun.RunEq R (PySem.W.view R.prog [67]) hk ob 4000 loose (w.withFollow "special-get-raises" true) := by
  intro os
  kernel_rfl
theorem run (w : World) : HandSHeadRun.RunEq R (PySem.W.view R.prog [67]) hk ob 4000 loose w := PySem.W.byRow2 "special-get-raises" run_false run_true w
end GH
open PySem PySem.W PySem.Calls PyProof.Rows
theorem PySem.Challenge.cw_answerrooms_k07_rooms_by_hand_holds : PySem.Challenge.rw_answerrooms_k07_rooms_by_hand.Holds := by
  w_on; o_law
  refine HandSHeadRun.head_any (r := OpenLaw.row PySem.Challenge.rw_answerrooms_k07_rooms_by_hand) (q := view (OpenLaw.row PySem.Challenge.rw_answerrooms_k07_rooms_by_hand).prog [67]) (H := GH.hk) (ob := GH.ob) (M := 4000) (loose := GH.loose) (d := HandSHeadRun.topDef (OpenLaw.row PySem.Challenge.rw_answerrooms_k07_rooms_by_hand).prog 67) (kwd := []) GH.ob_eq
    (by kernel_rfl) (fun s => by kernel_rfl) GH.run (by kernel_rfl) (by kernel_rfl) (by kernel_rfl) (by rfl) (by first | assumption | decide +kernel) (by decide +kernel) ⟨rfl, rfl, rfl, rfl, rfl, by decide +kernel⟩ ?hw ?hc
  case hw => w_witness2
  case hc =>
    refine DL.walk_dl (l := PySem.Challenge.rw_answerrooms_k07_rooms_by_hand) (n := 63) (k := 9) (x := "_law_script") (nm := "law") (F := G.F_law) rfl (by decide) (by kernel_rfl) ⟨rfl, by decide, by decide⟩ (by kernel_rfl) G.law_true ?F
    intro w mg h Y Gr
    obtain ⟨K, KX, c⟩ := Y
    obtain ⟨fd, hb, hm, hF⟩ := G.law_at (P := (PySem.Challenge.rw_answerrooms_k07_rooms_by_hand).prog) (w := w) KX Gr c.d (c.tab 0)
    exact ⟨K, fd, KX, hb, hm, hF⟩
