import PyProof.Rows.All
import Wide.All
import OpenK.AllK
import Wide.FinOn
import HandS.ForMost
import HandS.Exc
import HandS.TryOnly
import HandS.ExcOwn
import HandS.WordsExc
import HandS.Walk
import HandS.Wide
import HandS.Defaults
import HandS.CallSlots
import HandS.Deep
import HandS.Lambda
import PyProof.ReprRoads
import HandS.TupAny
import HandS.TupLe
import HandS.Style
import HandS.Flow
import KE.DataEq
import KE.DataIsa
import KE.DataMinMax
import KE.DataFind
import KE.DataAny
import KE.DataCmp
import KE.LtData
import KE.SortData
import HandS.Words
import HandS.Iter
import HandS.Zip
import HandS.Text
import KE.GoesNew
import PyProof.Claim2Refuses
import KE.KTupSum
import PyProof.CallFns
import HandS.Ends
import HandS.HeadHook1
import HandS.HeadHook2
import HandS.EndBits
import HandS.Conv
import KE.KRevSl
import HandS.SetFor
import HandS.Set
import KE.DatumIndex
import KE.KIndexOf
import PyProof.EqKinds
import PyProof.Dict
import PyProof.FactsAll.dict
import PyProof.FactsAll.subtypes_4
import HandS.DictEq
import HandS.TupMul
import HandS.SetBool
import HandS.List
import PyProof.Rows.ReprOcc
import KE.KExcSuper
import HandS.ExcIs
import HandS.ExcInit
import HandS.HeadHook4
import HandS.EndTab
import HandS.HeadWalk
import PySem.Challenge.RW_fewclues_k76_whole_games_sure_or_mixed
import KE.KStateDown
import HandS.Head0
import HandS.Head1
import HandS.Head2
import HandS.HeadEnd
set_option Elab.async false
set_option linter.all false
set_option maxRecDepth 100000
set_option maxHeartbeats 1000000
/-! Sm1: data by value, results, worlds, the relation of an environment to a state. -/
namespace Sm
open PySem PySem.Spec L2

/-- data, by value; obj: a cell of the store; glo: a def of the module; scr: a list that is only read (the script); raw: an address told by itself (a lambda, an exception caught) -/
inductive D where
  | non | bl (b : Bool) | int (i : Int) | str (x : Str) | tup (xs : List D) | lst (xs : List D) | dct (kvs : List (D × D)) | obj (i : Nat) | glo (x : Str) | scr (xs : List D) | raw (a : Addr)
abbrev Store := List (List D)
inductive Res (α : Type) where
  | ok (a : α) (st : Store) | exc (c : Str) (fs : List (Str × D)) (st : Store) | stuck
abbrev M (α : Type) := Store → Res α
@[simp] def ret {α : Type} (a : α) : M α := fun s => .ok a s
@[simp] def halt {α : Type} : M α := fun _ => .stuck
def bnd {α β : Type} (m : M α) (f : α → M β) : M β := fun s => match m s with
  | .ok a s' => f a s'
  | .exc c d s' => .exc c d s'
  | .stuck => .stuck
@[simp] def lift {α : Type} (o : Option α) : M α := fun s => match o with
  | some a => .ok a s
  | none => .stuck
/-- slots; true: the slot alone holds it (a list of one's own, that may be changed) -/
abbrev En := Nat → Option (Bool × D)
@[simp] def En.put (e : En) (i : Nat) (b : Bool) (d : D) : En := fun j => if j = i then some (b, d) else e j
abbrev Ex := En → M D
abbrev Tx := En → M Bool
abbrev Lx := En → M (List D)
/-- a statement's end: on with env, or returned -/
inductive Fl where
  | nx (e : En) | rt (d : D)
abbrev Sx := En → M Fl
abbrev Gx := D → En → Option En
abbrev Fx := List D → M D

def kD : Key → D
  | .inl i => .int i
  | .inr x => .str x

/-- the object at a has no dict of its own (for its methods) -/
def Dl (K : PySem.W.Frag) (G : Hp) (a : Addr) : Prop := (∃ o u, G a = some (.frz o u) ∧ o.dict = none) ∨ ∃ o, K.lookup a = some o ∧ o.dict = none
theorem Dl.up {K : PySem.W.Frag} {G G' : Hp} {a : Addr} (g : ∀ a o, G a = some o → G' a = some o) (h : Dl K G a) : Dl K G' a := by
  rcases h with ⟨o, u, h, q⟩ | h
  · exact .inl ⟨o, u, g _ _ h, q⟩
  · exact .inr h
section
variable (K : PySem.W.Frag) (mg : Str → Option Value) (as : List Addr) (G : Hp)
mutual
/-- v stands for d in the frozen heap G -/
def Rp : D → V → Prop
  | .non, v => v = .non
  | .bl b, v => v = .bl b
  | .int i, v => v = .int i
  | .str x, v => v = .str x
  | .tup ds, v => ∃ a xs, v = .ref a ∧ SqT K G a xs ∧ Dl K G a ∧ RpL ds xs
  | .lst ds, v => ∃ a xs, v = .ref a ∧ G a = some (.lst xs) ∧ RpL ds xs
  | .scr ds, v => ∃ a xs, v = .ref a ∧ SqL K G a xs ∧ RpL ds xs
  | .dct ds, v => ∃ a, v = .ref a ∧ ((∃ kvs, G a = some (.dK kvs) ∧ RpK ds kvs) ∨ ∃ kvs, G a = some (.dT kvs) ∧ RpT ds kvs)
  | .obj i, v => ∃ a, v = .ref a ∧ as[i]? = some a
  | .glo x, v => ∃ a, v = .ref a ∧ mg x = some (.ref a)
  | .raw a, v => v = .ref a
def RpL : List D → List V → Prop
  | [], vs => vs = []
  | d :: ds, vs => ∃ v r, vs = v :: r ∧ Rp d v ∧ RpL ds r
def RpK : List (D × D) → List (Key × V) → Prop
  | [], kvs => kvs = []
  | (k, d) :: ds, kvs => ∃ q v r, kvs = (q, v) :: r ∧ k = kD q ∧ Rp d v ∧ RpK ds r
def RpT : List (D × D) → List (List Key × V) → Prop
  | [], kvs => kvs = []
  | (k, d) :: ds, kvs => ∃ q v r, kvs = (q, v) :: r ∧ k = .tup (q.map kD) ∧ Rp d v ∧ RpT ds r
end
end

theorem SqL.up {K : PySem.W.Frag} {G G' : Hp} {a : Addr} {xs : List V} (g : ∀ a o, G a = some o → G' a = some o) (h : SqL K G a xs) : SqL K G' a xs := by
  rcases h with (h | ⟨o, h⟩) | h
  · exact .inl (.inl (g _ _ h))
  · exact .inl (.inr ⟨o, g _ _ h⟩)
  · exact .inr h
theorem SqT.up {K : PySem.W.Frag} {G G' : Hp} {a : Addr} {xs : List V} (g : ∀ a o, G a = some o → G' a = some o) (h : SqT K G a xs) : SqT K G' a xs := by
  rcases h with (h | ⟨o, h⟩) | h
  · exact .inl (.inl (g _ _ h))
  · exact .inl (.inr ⟨o, g _ _ h⟩)
  · exact .inr h
section
variable {K : PySem.W.Frag} {mg : Str → Option Value} {as as' : List Addr} {G G' : Hp}
mutual
theorem Rp.up (ha : ∀ (i : Nat) a, as[i]? = some a → as'[i]? = some a) (g : ∀ a o, G a = some o → G' a = some o) : ∀ (d : D) (v : V), Rp K mg as G d v → Rp K mg as' G' d v
  | .non, v, h => by simpa only [Rp] using h
  | .bl b, v, h => by simpa only [Rp] using h
  | .int i, v, h => by simpa only [Rp] using h
  | .str x, v, h => by simpa only [Rp] using h
  | .tup ds, v, h => by
    simp only [Rp] at h ⊢
    obtain ⟨a, xs, e, s, z, l⟩ := h
    exact ⟨a, xs, e, SqT.up g s, z.up g, RpL.up ha g ds xs l⟩
  | .lst ds, v, h => by
    simp only [Rp] at h ⊢
    obtain ⟨a, xs, e, s, l⟩ := h
    exact ⟨a, xs, e, g _ _ s, RpL.up ha g ds xs l⟩
  | .scr ds, v, h => by
    simp only [Rp] at h ⊢
    obtain ⟨a, xs, e, s, l⟩ := h
    exact ⟨a, xs, e, SqL.up g s, RpL.up ha g ds xs l⟩
  | .dct ds, v, h => by
    simp only [Rp] at h ⊢
    obtain ⟨a, e, ⟨kvs, s, l⟩ | ⟨kvs, s, l⟩⟩ := h
    · exact ⟨a, e, .inl ⟨kvs, g _ _ s, RpK.up ha g ds kvs l⟩⟩
    · exact ⟨a, e, .inr ⟨kvs, g _ _ s, RpT.up ha g ds kvs l⟩⟩
  | .obj i, v, h => by
    simp only [Rp] at h ⊢
    obtain ⟨a, e, s⟩ := h
    exact ⟨a, e, ha _ _ s⟩
  | .glo x, v, h => by simpa only [Rp] using h
  | .raw x, v, h => by simpa only [Rp] using h
theorem RpL.up (ha : ∀ (i : Nat) a, as[i]? = some a → as'[i]? = some a) (g : ∀ a o, G a = some o → G' a = some o) : ∀ (ds : List D) (vs : List V), RpL K mg as G ds vs → RpL K mg as' G' ds vs
  | [], vs, h => by simpa only [RpL] using h
  | d :: ds, vs, h => by
    simp only [RpL] at h ⊢
    obtain ⟨v, r, e, h1, h2⟩ := h
    exact ⟨v, r, e, Rp.up ha g d v h1, RpL.up ha g ds r h2⟩
theorem RpK.up (ha : ∀ (i : Nat) a, as[i]? = some a → as'[i]? = some a) (g : ∀ a o, G a = some o → G' a = some o) : ∀ (ds : List (D × D)) (vs : List (Key × V)), RpK K mg as G ds vs → RpK K mg as' G' ds vs
  | [], vs, h => by simpa only [RpK] using h
  | (k, d) :: ds, vs, h => by
    simp only [RpK] at h ⊢
    obtain ⟨q, v, r, e, ek, h1, h2⟩ := h
    exact ⟨q, v, r, e, ek, Rp.up ha g d v h1, RpK.up ha g ds r h2⟩
theorem RpT.up (ha : ∀ (i : Nat) a, as[i]? = some a → as'[i]? = some a) (g : ∀ a o, G a = some o → G' a = some o) : ∀ (ds : List (D × D)) (vs : List (List Key × V)), RpT K mg as G ds vs → RpT K mg as' G' ds vs
  | [], vs, h => by simpa only [RpT] using h
  | (k, d) :: ds, vs, h => by
    simp only [RpT] at h ⊢
    obtain ⟨q, v, r, e, ek, h1, h2⟩ := h
    exact ⟨q, v, r, e, ek, Rp.up ha g d v h1, RpT.up ha g ds r h2⟩
end
end

/-! ### worlds: the abstract heap, its frozen part, where the store's cells lie -/
/-- no table of code objects -/
def nT : HO → Bool
  | .tbl _ => false
  | _ => true
/-- nothing, but a table of code objects, perhaps -/
def Nn (o : Option HO) : Prop := ∀ u, o = some u → nT u = false
theorem nn_none : Nn none := fun _ h => by cases h
theorem nn_of {o : Option HO} (h : o = none) : Nn o := h ▸ nn_none
theorem nn_no {o : Option HO} {u : HO} (n : Nn o) (h : o = some u) (q : nT u = true := by rfl) : False := by
  have := n u h; rw [q] at this; cases this
structure Wd where
  H : Hp
  G : Hp
  as : List Addr
  T : List (Addr × Str) := []
section
variable (K : PySem.W.Frag) (mg : Str → Option Value)
structure Wd.Ok (W : Wd) (st : Store) : Prop where
  sub : ∀ a o, W.G a = some o → W.H a = some o
  nod : W.as.Nodup
  dis : ∀ a ∈ W.as, W.G a = none
  len : W.as.length = st.length
  cel : ∀ (i : Nat) (ds : List D), st[i]? = some ds → ∃ a vs, W.as[i]? = some a ∧ W.H a = some (.lst vs) ∧ RpL K mg W.as W.G ds vs
  tab : LamX.Tabs W.T W.H
  tabG : ∀ a o, W.G a = some o → nT o = true
/-- later, where nothing that stood has changed but the store's cells -/
structure Ext (W W' : Wd) : Prop where
  g : ∀ a o, W.G a = some o → W'.G a = some o
  gn : ∀ a, W.G a = none → W'.G a ≠ none → Nn (W.H a)
  as : ∃ l, W'.as = W.as ++ l
  asn : ∀ a ∈ W'.as, a ∈ W.as ∨ Nn (W.H a)
  h : ∀ a o, W.H a = some o → a ∉ W.as → (q : nT o = true := by rfl) → W'.H a = some o
  t : W'.T = W.T
  hn : ∀ a, Nn (W'.H a) → Nn (W.H a)
/-- later: the frozen part and the cells stand -/
structure Lat (W W' : Wd) : Prop where
  g : ∀ a o, W.G a = some o → W'.G a = some o
  as : ∃ l, W'.as = W.as ++ l
/-- the own list or dict at a, its items frozen -/
def Top (W : Wd) (a : Addr) : D → Prop
  | .lst ds => ∃ vs, W.H a = some (.lst vs) ∧ RpL K mg W.as W.G ds vs
  | .dct ds => (∃ kvs, W.H a = some (.dK kvs) ∧ RpK K mg W.as W.G ds kvs) ∨ ∃ kvs, W.H a = some (.dT kvs) ∧ RpT K mg W.as W.G ds kvs
  | _ => False
/-- new since W, told by nothing else -/
def Fresh (W W' : Wd) (d : D) (v : V) : Prop := ∃ a, v = .ref a ∧ Nn (W.H a) ∧ W'.G a = none ∧ a ∉ W'.as ∧ Top K mg W' a d
/-- frozen, or an own one as it stands -/
def Bor (W : Wd) (d : D) (v : V) : Prop := Rp K mg W.as W.G d v ∨ ∃ a, v = .ref a ∧ a ∉ W.as ∧ Top K mg W a d
end
/-- kinds of results: frozen, borrowed, fresh -/
inductive Kd where
  | froz | bor | fresh
def RK (K : PySem.W.Frag) (mg : Str → Option Value) (κ : Kd) (W W' : Wd) (d : D) (v : V) : Prop := match κ with
  | .froz => Rp K mg W'.as W'.G d v
  | .bor => Bor K mg W' d v
  | .fresh => Fresh K mg W W' d v

section
variable {K : PySem.W.Frag} {mg : Str → Option Value} {W W1 W2 W' : Wd} {st st' : Store} {d : D} {v : V}
theorem pre_of {l l' m : List Addr} (e : l' = l ++ m) : ∀ (i : Nat) a, l[i]? = some a → l'[i]? = some a := fun i a h => by
  have hi : i < l.length := by
    by_cases q : i < l.length
    · exact q
    · rw [List.getElem?_eq_none (by omega)] at h; cases h
  rw [e, List.getElem?_append_left hi]; exact h
theorem Ext.pre (e : Ext W W') : ∀ (i : Nat) a, W.as[i]? = some a → W'.as[i]? = some a := let ⟨_, q⟩ := e.as; pre_of q
theorem Lat.pre (e : Lat W W') : ∀ (i : Nat) a, W.as[i]? = some a → W'.as[i]? = some a := let ⟨_, q⟩ := e.as; pre_of q
theorem Ext.refl (W : Wd) : Ext W W := ⟨fun _ _ h => h, fun _ h n => absurd h n, ⟨[], by simp⟩, fun _ h => .inl h, fun _ _ h _ _ => h, rfl, fun _ h => h⟩
theorem Lat.refl (W : Wd) : Lat W W := ⟨fun _ _ h => h, ⟨[], by simp⟩⟩
theorem Ext.lat (e : Ext W W') : Lat W W' := ⟨e.g, e.as⟩
theorem Lat.trans (e : Lat W W1) (f : Lat W1 W2) : Lat W W2 := ⟨fun a o h => f.g a o (e.g a o h), by
  obtain ⟨l, q⟩ := e.as
  obtain ⟨m, r⟩ := f.as
  exact ⟨l ++ m, by rw [r, q, List.append_assoc]⟩⟩
theorem Ext.trans (e : Ext W W1) (f : Ext W1 W2) : Ext W W2 := by
  refine ⟨fun a o h => f.g a o (e.g a o h), fun a h n => ?_, ?_, fun a h => ?_, fun a o h n z => ?_, f.t.trans e.t, fun a h => e.hn a (f.hn a h)⟩
  · cases q : W1.G a with
    | none => exact e.hn a (f.gn a q n)
    | some o => exact e.gn a h (by rw [q]; intro z; cases z)
  · obtain ⟨l, q⟩ := e.as
    obtain ⟨m, r⟩ := f.as
    exact ⟨l ++ m, by rw [r, q, List.append_assoc]⟩
  · rcases f.asn a h with z | z
    · exact e.asn a z
    · exact .inr (e.hn a z)
  · refine f.h a o (e.h a o h n z) (fun y => ?_) z
    rcases e.asn a y with q | q
    · exact n q
    · exact nn_no q h z
theorem RpL.len {as : List Addr} {G : Hp} : ∀ {ds : List D} {vs : List V}, RpL K mg as G ds vs → ds.length = vs.length
  | [], vs, h => by simp only [RpL] at h; rw [h]; rfl
  | d :: ds, vs, h => by
    simp only [RpL] at h
    obtain ⟨v, r, e, _, h2⟩ := h
    rw [e, List.length_cons, List.length_cons, RpL.len h2]
theorem Top.ext (e : Ext W W') {a : Addr} (hn : a ∉ W.as) (h : Top K mg W a d) : Top K mg W' a d := by
  cases d with
  | lst ds =>
    obtain ⟨vs, h1, h2⟩ := h
    exact ⟨vs, e.h a _ h1 hn, RpL.up e.pre e.g ds vs h2⟩
  | dct ds =>
    rcases h with ⟨kvs, h1, h2⟩ | ⟨kvs, h1, h2⟩
    · exact .inl ⟨kvs, e.h a _ h1 hn, RpK.up e.pre e.g ds kvs h2⟩
    · exact .inr ⟨kvs, e.h a _ h1 hn, RpT.up e.pre e.g ds kvs h2⟩
  | _ => exact h
theorem Top.there {a : Addr} (h : Top K mg W a d) : ¬ Nn (W.H a) := by
  cases d with
  | lst ds => obtain ⟨vs, h1, h2⟩ := h; exact fun z => nn_no z h1
  | dct ds =>
    rcases h with ⟨kvs, h1, h2⟩ | ⟨kvs, h1, h2⟩ <;> exact fun z => nn_no z h1
  | _ => exact False.elim h
theorem notas (e : Ext W W') {a : Addr} (h : ¬ Nn (W.H a)) (hn : a ∉ W.as) : a ∉ W'.as := fun z => (e.asn a z).elim hn h
theorem Rp.ext (e : Ext W W') (h : Rp K mg W.as W.G d v) : Rp K mg W'.as W'.G d v := Rp.up e.pre e.g d v h
theorem Rp.lat (e : Lat W W') (h : Rp K mg W.as W.G d v) : Rp K mg W'.as W'.G d v := Rp.up e.pre e.g d v h
theorem Bor.ext (e : Ext W W') (h : Bor K mg W d v) : Bor K mg W' d v := by
  rcases h with h | ⟨a, ev, hn, h⟩
  · exact .inl (h.ext e)
  · exact .inr ⟨a, ev, notas e h.there hn, h.ext e hn⟩
theorem Fresh.ext {W0 : Wd} (e : Ext W W') (h : Fresh K mg W0 W d v) : Fresh K mg W0 W' d v := by
  obtain ⟨a, ev, n0, ng, na, t⟩ := h
  refine ⟨a, ev, n0, ?_, notas e t.there na, t.ext e na⟩
  cases q : W'.G a with
  | none => rfl
  | some o => exact absurd (e.gn a ng (by rw [q]; intro z; cases z)) t.there
theorem Fresh.bor {W0 : Wd} (h : Fresh K mg W0 W d v) : Bor K mg W d v := let ⟨a, ev, _, _, na, t⟩ := h; .inr ⟨a, ev, na, t⟩
theorem RK.bor {κ : Kd} (h : RK K mg κ W W' d v) : Bor K mg W' d v := by
  cases κ with
  | froz => exact .inl h
  | bor => exact h
  | fresh => exact Fresh.bor h
theorem RK.down {κ : Kd} (e : Ext W W1) (h : RK K mg κ W1 W' d v) : RK K mg κ W W' d v := by
  cases κ with
  | froz => exact h
  | bor => exact h
  | fresh =>
    obtain ⟨a, ev, n0, r⟩ := h
    exact ⟨a, ev, e.hn a n0, r⟩
/-- a is frozen from now on -/
def Wd.frz (W : Wd) (a : Addr) : Wd := { W with G := fun b => if b = a then W.H a else W.G b }
theorem frz_g {a : Addr} (ng : W.G a = none) : ∀ b o, W.G b = some o → (W.frz a).G b = some o := fun b o h => by
  show (if b = a then W.H a else W.G b) = some o
  rw [if_neg (fun z => by rw [z, ng] at h; cases h)]
  exact h
theorem frz_ok {a : Addr} (k : W.Ok K mg st) (ng : W.G a = none) (na : a ∉ W.as) (nt : ∀ o, W.H a = some o → nT o = true) : (W.frz a).Ok K mg st := by
  refine ⟨fun b o h => ?_, k.nod, fun b hb => ?_, k.len, fun i ds h => ?_, k.tab, fun b o h => ?_⟩
  · have h' : (if b = a then W.H a else W.G b) = some o := h
    by_cases q : b = a
    · rw [if_pos q] at h'; rw [q]; exact h'
    · rw [if_neg q] at h'; exact k.sub b o h'
  · show (if b = a then W.H a else W.G b) = none
    rw [if_neg (fun (z : b = a) => na (z ▸ hb))]
    exact k.dis b hb
  · obtain ⟨c, vs, h1, h2, h3⟩ := k.cel i ds h
    exact ⟨c, vs, h1, h2, RpL.up (fun _ _ h => h) (frz_g ng) ds vs h3⟩
  · have h' : (if b = a then W.H a else W.G b) = some o := h
    by_cases q : b = a
    · rw [if_pos q] at h'; exact nt o h'
    · rw [if_neg q] at h'; exact k.tabG b o h'
theorem Top.nt {a : Addr} (t : Top K mg W a d) : ∀ o, W.H a = some o → nT o = true := fun o h => by
  cases d with
  | lst ds => obtain ⟨vs, h1, _⟩ := t; rw [h1] at h; cases h; rfl
  | dct ds => rcases t with ⟨kvs, h1, _⟩ | ⟨kvs, h1, _⟩ <;> (rw [h1] at h; cases h; rfl)
  | _ => exact False.elim t
theorem frz_lat {a : Addr} (ng : W.G a = none) : Lat W (W.frz a) := ⟨frz_g ng, ⟨[], by show W.as = W.as ++ []; simp⟩⟩
theorem frz_ext {W0 : Wd} {a : Addr} (e : Ext W0 W) (n0 : Nn (W0.H a)) (ng : W.G a = none) : Ext W0 (W.frz a) := by
  refine ⟨fun b o h => frz_g ng b o (e.g b o h), fun b h n => ?_, e.as, e.asn, fun b o h n z => e.h b o h n z, e.t, e.hn⟩
  by_cases q : b = a
  · rw [q]; exact n0
  · refine e.gn b h fun z => n ?_
    show (if b = a then W.H a else W.G b) = none
    rw [if_neg q]; exact z
theorem frz_rp {a : Addr} (ng : W.G a = none) (t : Top K mg W a d) : Rp K mg (W.frz a).as (W.frz a).G d (.ref a) := by
  have at_ : (W.frz a).G a = W.H a := by show (if a = a then W.H a else W.G a) = W.H a; rw [if_pos rfl]
  cases d with
  | lst ds =>
    obtain ⟨vs, h1, h2⟩ := t
    simp only [Rp]
    exact ⟨a, vs, rfl, (by rw [at_]; exact h1), RpL.up (fun _ _ h => h) (frz_g ng) ds vs h2⟩
  | dct ds =>
    simp only [Rp]
    rcases t with ⟨kvs, h1, h2⟩ | ⟨kvs, h1, h2⟩
    · exact ⟨a, rfl, .inl ⟨kvs, by rw [at_]; exact h1, RpK.up (fun _ _ h => h) (frz_g ng) ds kvs h2⟩⟩
    · exact ⟨a, rfl, .inr ⟨kvs, by rw [at_]; exact h1, RpT.up (fun _ _ h => h) (frz_g ng) ds kvs h2⟩⟩
  | _ => exact False.elim t
end

/-! ### the context of a body -/
structure Cn where
  X : Cx
  W0 : Wd
  Wx : WX
abbrev Cn.ok (C : Cn) (W : Wd) (st : Store) : Prop := W.Ok C.X.K C.X.mg st
abbrev Cn.rp (C : Cn) (W : Wd) (d : D) (v : V) : Prop := Rp C.X.K C.X.mg W.as W.G d v
abbrev Cn.rk (C : Cn) (κ : Kd) (W W' : Wd) (d : D) (v : V) : Prop := RK C.X.K C.X.mg κ W W' d v
/-- the environment env at the slots σ -/
structure SR (C : Cn) (env : En) (W : Wd) (st : Store) (σ : L2.St) : Prop where
  ext : Ext C.W0 W
  len : σ.length = C.X.N.length
  ok : C.ok W st
  slot : ∀ (i : Nat) b d, env i = some (b, d) → ∃ v, σ[i]? = some (some v) ∧ (if b = true then Fresh C.X.K C.X.mg C.W0 W d v else C.rp W d v)
  dis : ∀ (i j : Nat) d e a, i ≠ j → env i = some (true, d) → env j = some (true, e) → σ[i]? = some (some (.ref a)) → σ[j]? = some (some (.ref a)) → False
/-- what an exception bears -/
def Bears (C : Cn) (W : Wd) (c : Str) (fs : List (Str × D)) (cl : Addr) (d : Option Addr) : Prop :=
  C.X.mg c = some (.ref cl) ∧ match fs with
    | [] => d = none
    | [(f, x)] => ∃ dd v, d = some dd ∧ W.H dd = some (.xd [(f, v)]) ∧ C.rp W x v
    | _ => False
def Out (C : Cn) (σ : L2.St) (W : Wd) {α : Type} (r : Res α) (k : α → Store → Prop) : Prop := match r with
  | .ok a st => k a st
  | .exc c fs st => ∀ cl d W', Ext W W' → C.ok W' st → Bears C W' c fs cl d → C.Wx (.ref cl) d σ W'.H
  | .stuck => False
def OutS (C : Cn) {α : Type} (r : Res α) (k : α → Store → Prop) : Prop := match r with
  | .ok a st => k a st
  | .exc c fs st => ∀ cl d W' σ', Ext C.W0 W' → C.ok W' st → Bears C W' c fs cl d → C.Wx (.ref cl) d σ' W'.H
  | .stuck => False
section
variable {C : Cn} {σ : L2.St} {W W1 W' : Wd} {α β : Type} {r : Res α} {k k' : α → Store → Prop} {st st' : Store} {env : En}
theorem Out.imp (o : Out C σ W r k) (h : ∀ a st, k a st → k' a st) : Out C σ W r k' := by
  cases r with
  | ok a st => exact h a st o
  | exc c fs st => exact o
  | stuck => exact o
theorem Out.up (e : Ext W W1) (o : Out C σ W r k) : Out C σ W1 r k := by
  cases r with
  | ok a st => exact o
  | exc c fs st => exact fun cl d W' e' => o cl d W' (e.trans e')
  | stuck => exact o
theorem Out.bnd {m : M α} {f : α → M β} {k : β → Store → Prop} (o : Out C σ W (bnd m f st) k) : Out C σ W (m st) fun a st' => Out C σ W (f a st') k := by
  unfold Sm.bnd at o
  cases q : m st with
  | ok a st' => rw [q] at o; exact o
  | exc c fs st' => rw [q] at o; exact o
  | stuck => rw [q] at o; exact o
theorem OutS.imp (o : OutS C r k) (h : ∀ a st, k a st → k' a st) : OutS C r k' := by
  cases r with
  | ok a st => exact h a st o
  | exc c fs st => exact o
  | stuck => exact o
theorem OutS.bnd {m : M α} {f : α → M β} {k : β → Store → Prop} (o : OutS C (bnd m f st) k) : OutS C (m st) fun a st' => OutS C (f a st') k := by
  unfold Sm.bnd at o
  cases q : m st with
  | ok a st' => rw [q] at o; exact o
  | exc c fs st' => rw [q] at o; exact o
  | stuck => rw [q] at o; exact o
/-- an expression within a statement -/
theorem OutS.out (o : OutS C r k) (e : Ext C.W0 W) : Out C σ W r k := by
  cases r with
  | ok a st => exact o
  | exc c fs st => exact fun cl d W' e' => o cl d W' σ (e.trans e')
  | stuck => exact o
theorem SR.up (R : SR C env W st σ) (e : Ext W W') (k : C.ok W' st') : SR C env W' st' σ := by
  refine ⟨R.ext.trans e, R.len, k, fun i b d h => ?_, R.dis⟩
  obtain ⟨v, h1, h2⟩ := R.slot i b d h
  refine ⟨v, h1, ?_⟩
  by_cases q : b = true
  · rw [if_pos q] at h2 ⊢; exact h2.ext e
  · rw [if_neg q] at h2 ⊢; exact h2.ext e
end
/-! ### expressions -/
def TEo (C : Cn) (κ : Kd) (m : Ex) : TE := fun σ H Q => ∃ env W st, W.H = H ∧ SR C env W st σ ∧
  Out C σ W (m env st) fun d st' => ∀ v W', Ext W W' → C.ok W' st' → C.rk κ W W' d v → Q v W'.H
def TTo (C : Cn) (m : Tx) : TT := fun σ H Q => ∃ env W st, W.H = H ∧ SR C env W st σ ∧
  Out C σ W (m env st) fun b st' => ∀ W', Ext W W' → C.ok W' st' → Q b W'.H
def TAo (C : Cn) (m : Lx) : TA := fun σ H Q => ∃ env W st, W.H = H ∧ SR C env W st σ ∧
  Out C σ W (m env st) fun ds st' => ∀ vs W', Ext W W' → C.ok W' st' → RpL C.X.K C.X.mg W'.as W'.G ds vs → Q vs W'.H
/-- e does what m does, its result of kind κ -/
def SE (C : Cn) (κ : Kd) (e : Expr) (m : Ex) : Prop := PE C.X e (TEo C κ m)
def ST (C : Cn) (e : Expr) (m : Tx) : Prop := PT C.X e (TTo C m)
def SW (C : Cn) (e : Expr) (m : Tx) : Prop := PW C.X e (TTo C m)
def SA (C : Cn) (es : List Expr) (m : Lx) : Prop := PA C.X es (TAo C m)
section
variable {C : Cn} {σ : L2.St} {W W1 W' : Wd} {st st' : Store} {env : En} {κ : Kd} {e : Expr} {es : List Expr} {m : Ex} {mt : Tx} {ml : Lx} {pins : List (Addr × Obj)} {s : Shared}
theorem SE.go {Q : Value → Shared → Prop} (h : SE C κ e m) (I : Inv C.X pins σ W.H s) (R : SR C env W st σ)
    (o : Out C σ W (m env st) fun d st' => ∀ v u s' W', Ext W W' → C.ok W' st' → C.rk κ W W' d v → Inv C.X pins σ W'.H s' → RelV v u → Q u s') :
    wpAny (model C.X.prog C.X.w) C.X.A (eval e C.X.env) Q C.X.xe s := by
  refine thn (h.run pins s σ W.H (fun v H' => ∀ u s', Inv C.X pins σ H' s' → RelV v u → Q u s') I ⟨env, W, st, rfl, R, o.imp fun d st' h v W' e k r u s' I' ru => h v u s' W' e k r I' ru⟩) fun u s' ⟨v, H', I', r, q⟩ => q u s' I' r
theorem SE.mk (h : ∀ (pins : List (Addr × Obj)) (s : Shared) (σ : L2.St) (env : En) (W : Wd) (st : Store) (Q : VK), Inv C.X pins σ W.H s → SR C env W st σ →
    (Out C σ W (m env st) fun d st' => ∀ v W', Ext W W' → C.ok W' st' → C.rk κ W W' d v → Q v W'.H) → wpAny (model C.X.prog C.X.w) C.X.A (eval e C.X.env) (EP C.X pins σ Q) C.X.xe s) : SE C κ e m :=
  ⟨fun pins s σ H Q I ⟨env, W, st, hH, R, o⟩ => by subst hH; exact h pins s σ env W st Q I R o⟩
theorem ST.go {Q : Bool → Shared → Prop} (h : ST C e mt) (I : Inv C.X pins σ W.H s) (R : SR C env W st σ)
    (o : Out C σ W (mt env st) fun b st' => ∀ s' W', Ext W W' → C.ok W' st' → Inv C.X pins σ W'.H s' → Q b s') :
    wpAny (model C.X.prog C.X.w) C.X.A (isTrue e C.X.env (eval e C.X.env)) Q C.X.xe s := by
  refine thn (h.run pins s σ W.H (fun b H' => ∀ s', Inv C.X pins σ H' s' → Q b s') I ⟨env, W, st, rfl, R, o.imp fun d st' h W' e k s' I' => h s' W' e k I'⟩) fun b s' ⟨H', I', q⟩ => q s' I'
theorem SW.go {Q : Bool → Shared → Prop} (h : SW C e mt) (wh : Sem Value) (I : Inv C.X pins σ W.H s) (R : SR C env W st σ)
    (o : Out C σ W (mt env st) fun b st' => ∀ s' W', Ext W W' → C.ok W' st' → Inv C.X pins σ W'.H s' → Q b s') :
    wpAny (model C.X.prog C.X.w) C.X.A (isTrue e C.X.env wh) Q C.X.xe s := by
  refine thn (h.run wh pins s σ W.H (fun b H' => ∀ s', Inv C.X pins σ H' s' → Q b s') I ⟨env, W, st, rfl, R, o.imp fun d st' h W' e k s' I' => h s' W' e k I'⟩) fun b s' ⟨H', I', q⟩ => q s' I'
theorem ST.mk (h : ∀ (pins : List (Addr × Obj)) (s : Shared) (σ : L2.St) (env : En) (W : Wd) (st : Store) (Q : Bool → Hp → Prop), Inv C.X pins σ W.H s → SR C env W st σ →
    (Out C σ W (mt env st) fun b st' => ∀ W', Ext W W' → C.ok W' st' → Q b W'.H) → wpAny (model C.X.prog C.X.w) C.X.A (isTrue e C.X.env (eval e C.X.env)) (TP C.X pins σ Q) C.X.xe s) : ST C e mt :=
  ⟨fun pins s σ H Q I ⟨env, W, st, hH, R, o⟩ => by subst hH; exact h pins s σ env W st Q I R o⟩
theorem SA.go {Q : List Value → Shared → Prop} {pos : Pos} (h : SA C es ml) (I : Inv C.X pins σ W.H s) (R : SR C env W st σ)
    (o : Out C σ W (ml env st) fun ds st' => ∀ vs us s' W', Ext W W' → C.ok W' st' → RpL C.X.K C.X.mg W'.as W'.G ds vs → Inv C.X pins σ W'.H s' → Vals vs us → Q us s') :
    wpAny (model C.X.prog C.X.w) C.X.A (spliced (backTo pos (starEach es C.X.env))) Q C.X.xe s := by
  refine thn (h.run pos pins s σ W.H (fun vs H' => ∀ us s', Inv C.X pins σ H' s' → Vals vs us → Q us s') I ⟨env, W, st, rfl, R, o.imp fun d st' h v W' e k r u s' I' ru => h v u s' W' e k r I' ru⟩) fun u s' ⟨v, H', I', r, q⟩ => q u s' I' r
/-- a fresh thing, frozen at once -/
theorem SE.froz (h : SE C .fresh e m) : SE C .froz e m := SE.mk fun pins s σ env W st Q I R o => by
  refine h.go I R (o.imp fun d st' hq v u s' W' e1 k1 r1 I1 ru => ?_)
  obtain ⟨a, ev, n0, ng, na, t⟩ := r1
  subst ev
  exact ⟨.ref a, (W'.frz a).H, I1, ru, hq (.ref a) (W'.frz a) (frz_ext e1 n0 ng) (frz_ok k1 ng na t.nt) (frz_rp ng t)⟩
theorem SE.bor (h : SE C κ e m) : SE C .bor e m := SE.mk fun pins s σ env W st Q I R o => by
  refine h.go I R (o.imp fun d st' hq v u s' W' e1 k1 r1 I1 ru => ⟨v, W'.H, I1, ru, hq v W' e1 k1 r1.bor⟩)
end
end Sm


set_option Elab.async false
set_option linter.all false
set_option maxRecDepth 100000
set_option maxHeartbeats 1000000
/-! Sm2: expressions: names, constants, operators, tests, displays, subscripts. -/
namespace Sm
open PySem PySem.Spec L2

/-! ### new objects -/
section
variable {K : PySem.W.Frag} {mg : Str → Option Value} {W W1 W' : Wd} {st : Store}
theorem Wd.Ok.there (k : W.Ok K mg st) {a : Addr} (h : a ∈ W.as) : W.H a ≠ none := by
  obtain ⟨i, hi, e⟩ := List.mem_iff_getElem.mp h
  have h2 : i < st.length := by rw [← k.len]; exact hi
  obtain ⟨c, vs, h3, h4, _⟩ := k.cel i st[i] (List.getElem?_eq_getElem h2)
  have : c = a := by
    rw [List.getElem?_eq_getElem hi, e] at h3
    exact (Option.some.inj h3).symm
  rw [← this, h4]
  intro z; cases z
def Wd.new (W : Wd) (p : Addr) (o : HO) : Wd := { W with H := upd W.H p o }
theorem new_at {p b : Addr} {o u : HO} (n : W.H p = none) (h : W.H b = some u) : (W.new p o).H b = some u := by
  show upd W.H p o b = some u
  rw [upd_ne (ne_of_none h n)]; exact h
theorem new_ext {p : Addr} {o : HO} (n : W.H p = none) : Ext W (W.new p o) := by
  refine ⟨fun _ _ h => h, fun _ h q => absurd h q, ⟨[], by show W.as = W.as ++ []; simp⟩, fun _ h => .inl h, fun a u h _ _ => new_at n h, rfl, fun a h => ?_⟩
  have h' : Nn (upd W.H p o a) := h
  by_cases q : a = p
  · rw [q]; exact nn_of n
  · rw [upd_ne q] at h'; exact h'
theorem new_ok {p : Addr} {o : HO} (k : W.Ok K mg st) (n : W.H p = none) : (W.new p o).Ok K mg st := by
  refine ⟨fun a u h => new_at n (k.sub a u h), k.nod, k.dis, k.len, fun i ds h => ?_, k.tab.ext fun b o h => new_at n h, k.tabG⟩
  obtain ⟨a, vs, h1, h2, h3⟩ := k.cel i ds h
  exact ⟨a, vs, h1, new_at n h2, h3⟩
theorem new_g {p : Addr} {o : HO} (k : W.Ok K mg st) (n : W.H p = none) : (W.new p o).G p = none := by
  show W.G p = none
  cases q : W.G p with
  | none => rfl
  | some u => rw [k.sub p u q] at n; cases n
theorem new_nt {p : Addr} {o : HO} (h : nT o = true) : ∀ u, (W.new p o).H p = some u → nT u = true := fun u e => by
  have e' : (W.new p o).H p = some o := upd_same
  rw [e'] at e; cases e; exact h
theorem new_as {p : Addr} {o : HO} (k : W.Ok K mg st) (n : W.H p = none) : p ∉ (W.new p o).as := fun h => k.there h n
theorem new_lst {p : Addr} {vs : List V} {ds : List D} (k : W.Ok K mg st) (n : W.H p = none) (r : RpL K mg W.as W.G ds vs) : Fresh K mg W (W.new p (.lst vs)) (.lst ds) (.ref p) :=
  ⟨p, rfl, nn_of n, new_g k n, new_as k n, vs, upd_same, r⟩
/-- a new tuple, frozen at once -/
def Wd.newT (W : Wd) (p : Addr) (o : Obj) (xs : List V) : Wd := (W.new p (.frz o (.tup xs))).frz p
theorem newT_ext {p : Addr} {o : Obj} {xs : List V} (k : W.Ok K mg st) (n : W.H p = none) : Ext W (W.newT p o xs) := frz_ext (new_ext n) (nn_of n) (new_g k n)
theorem newT_ok {p : Addr} {o : Obj} {xs : List V} (k : W.Ok K mg st) (n : W.H p = none) : (W.newT p o xs).Ok K mg st := frz_ok (new_ok k n) (new_g k n) (new_as k n) fun u h => by
  have e : (W.new p (.frz o (.tup xs))).H p = some (.frz o (.tup xs)) := upd_same
  rw [e] at h; cases h; rfl
theorem newT_rp {p : Addr} {o : Obj} {xs : List V} {ds : List D} (k : W.Ok K mg st) (n : W.H p = none) (hd : o.dict = none) (r : RpL K mg W.as W.G ds xs) : Rp K mg (W.newT p o xs).as (W.newT p o xs).G (.tup ds) (.ref p) := by
  simp only [Rp]
  have e : (W.newT p o xs).G p = some (.frz o (.tup xs)) := by
    show (if p = p then upd W.H p (.frz o (.tup xs)) p else W.G p) = _
    rw [if_pos rfl]; exact upd_same
  exact ⟨p, xs, rfl, .inl (.inr ⟨o, e⟩), .inl ⟨o, _, e, hd⟩, RpL.up (fun _ _ h => h) (frz_g (new_g k n)) ds xs r⟩
/-- the object of a new tuple -/
def tupO (its : List Value) : Obj := { cls := .type "tuple", data := .seq its.toArray }
/-- a new tuple of xs -/
def QT (Q : VK) (H : Hp) (xs : List V) : Prop := ∀ p o, H p = none → o.dict = none → Q (.ref p) (upd H p (.frz o (.tup xs)))
theorem newTup {X : Cx} {pins : List (Addr × Obj)} {σ : L2.St} {H : Hp} {s : Shared} {xs : List V} {its : List Value} {Q : VK} {t : Nat} (I : Inv X pins σ H s) (r : Vals xs its) (hz : xs.length ≤ sizeLine) (q : QT Q H xs) :
    EP X pins σ Q (.ref s.heap.objs.size) { s with heap := s.heap.push (tupO its), toks := t } := by
  refine ⟨.ref s.heap.objs.size, _, I.laid (t' := t) (o := .frz (tupO its) (.tup xs)) (fun b ob q => Heap.get?_push_of_some _ q) (Nat.le_refl _) ?_, rfl, q _ (tupO its) (I.hok.fresh (Nat.le_refl _)) rfl⟩
  exact ⟨Heap.get?_push_size _ rfl, hz, its, r, ⟨_, Heap.get?_push_size _ rfl, rfl, _, rfl⟩⟩
/-- t + u -/
def rCatF (K : PySem.W.Frag) : R2 := fun x y H Q => ∃ a b xs ys, x = .ref a ∧ y = .ref b ∧ SqT K H a xs ∧ SqT K H b ys ∧ xs.length + ys.length ≤ sizeLine ∧
  (xs = [] → Q (.ref b) H) ∧ (ys = [] → Q (.ref a) H) ∧ QT Q H (xs ++ ys)
theorem op_catF {X : Cx} : OpR X (binaryOp .Add) (rCatF X.K) := by
  intro pins s σ H x y v u Q I rx ry h
  obtain ⟨a, b, xs, ys, rfl, rfl, ha, hb, hz, q0, q1, q2⟩ := h
  cases rx
  cases ry
  obtain ⟨its, r1, p1, _⟩ := I.tuple ha
  obtain ⟨its2, r2, p2, _⟩ := I.tuple hb
  by_cases hx : xs = []
  · subst hx
    cases r1
    exact cat_tup0 p1 p2 ⟨.ref b, H, I, rfl, q0 rfl⟩
  · refine HT.cat_tup p1 p2 (fun z => hx (by subst z; cases r1; rfl)) (fun z => ⟨.ref a, H, I, rfl, q1 (by subst z; cases r2; rfl)⟩) (fun z => ?_) (by rw [← r1.length, ← r2.length]; exact hz)
    exact newTup (t := s.toks) I (r1.append r2) (by rw [List.length_append]; exact hz) q2
/-- t[lo:hi] -/
def rSlF (K : PySem.W.Frag) : V → Option Int → Option Int → Hp → VK → Prop := fun x lo hi H Q => ∃ a xs, x = .ref a ∧ SqT K H a xs ∧
  (HT.sIx xs.length 0 lo = 0 ∧ HT.sIx xs.length xs.length hi = xs.length → Q (.ref a) H) ∧ QT Q H (cutV xs lo hi)
theorem sl_tupF {X : Cx} : SlR X (rSlF X.K) := by
  intro pins s σ H x v vl vu lo hi sl Q I rx hs pl pu h
  obtain ⟨a, xs, rfl, hx, q1, q2⟩ := h
  cases rx
  obtain ⟨its, r, ht, hz⟩ := I.tuple hx
  have hlen : its.toArray.size = xs.length := by rw [List.size_toArray]; exact r.length.symm
  refine ⟨"tuple", _, PyProof.Rows.slot_tuple_getitem.lookup, ht.typeIs, ?_⟩
  by_cases hw : HT.sIx xs.length 0 lo = 0 ∧ HT.sIx xs.length xs.length hi = xs.length
  · exact getItem_tuple_whole ht hs pl pu (by rw [hlen]; exact hw) ⟨.ref a, H, I, rfl, q1 hw⟩
  · refine HT.getItem_tuple_cut ht hs pl pu (by rw [hlen]; exact hw) ?_ (by rw [hlen]; exact hz)
    rw [hlen]
    exact newTup (t := s.toks) (its := (its.drop (HT.sIx xs.length 0 lo)).take (HT.sIx xs.length xs.length hi - HT.sIx xs.length 0 lo)) I
      ((r.drop (HT.sIx xs.length 0 lo)).take (HT.sIx xs.length xs.length hi - HT.sIx xs.length 0 lo)) (Nat.le_trans (cutV_length xs lo hi) hz) q2
/-- (a, b, ..) -/
def tTupF (t : TA) : TE := fun σ H Q => t σ H fun xs H1 => xs.length ≤ sizeLine ∧ QT Q H1 xs
theorem pe_tupF {X : Cx} {es : List Expr} {t : TA} {pos : Pos} {x1} (h : PA X es t) : PE X (.Tuple es x1 pos) (tTupF t) := by
  refine ⟨fun pins s σ H Q I hq => ?_⟩
  refine wpAny_Tuple_spliced (thn (h.run pos pins s σ H _ I hq) fun us s1 ⟨xs, H1, I1, r, z, q⟩ => ⟨by rw [← r.length]; exact z, ?_⟩)
  exact newTup (t := s1.toks) I1 r z q
/-- what may be read of what is borrowed -/
theorem Bor.lst {ds : List D} {v : V} (k : W.Ok K mg st) (h : Bor K mg W (.lst ds) v) : ∃ a vs, v = .ref a ∧ W.H a = some (.lst vs) ∧ RpL K mg W.as W.G ds vs := by
  rcases h with h | ⟨a, ev, _, vs, h1, h2⟩
  · simp only [Rp] at h
    obtain ⟨a, vs, ev, s, l⟩ := h
    exact ⟨a, vs, ev, k.sub _ _ s, l⟩
  · exact ⟨a, vs, ev, h1, h2⟩
theorem Bor.scr {ds : List D} {v : V} (k : W.Ok K mg st) (h : Bor K mg W (.scr ds) v) : ∃ a vs, v = .ref a ∧ SqL K W.H a vs ∧ RpL K mg W.as W.G ds vs := by
  rcases h with h | ⟨a, ev, _, h1⟩
  · simp only [Rp] at h
    obtain ⟨a, vs, ev, s, l⟩ := h
    exact ⟨a, vs, ev, SqL.up k.sub s, l⟩
  · exact h1.elim
theorem Bor.tup {ds : List D} {v : V} (k : W.Ok K mg st) (h : Bor K mg W (.tup ds) v) : ∃ a vs, v = .ref a ∧ SqT K W.H a vs ∧ RpL K mg W.as W.G ds vs := by
  rcases h with h | ⟨a, ev, _, h1⟩
  · simp only [Rp] at h
    obtain ⟨a, vs, ev, s, _, l⟩ := h
    exact ⟨a, vs, ev, SqT.up k.sub s, l⟩
  · exact h1.elim
theorem Bor.int {i : Int} {v : V} (h : Bor K mg W (.int i) v) : v = .int i := by
  rcases h with h | ⟨a, ev, _, h1⟩
  · simpa only [Rp] using h
  · exact h1.elim
theorem Bor.bl {i : Bool} {v : V} (h : Bor K mg W (.bl i) v) : v = .bl i := by
  rcases h with h | ⟨a, ev, _, h1⟩
  · simpa only [Rp] using h
  · exact h1.elim
theorem Bor.str {i : Str} {v : V} (h : Bor K mg W (.str i) v) : v = .str i := by
  rcases h with h | ⟨a, ev, _, h1⟩
  · simpa only [Rp] using h
  · exact h1.elim
theorem Bor.non {v : V} (h : Bor K mg W .non v) : v = .non := by
  rcases h with h | ⟨a, ev, _, h1⟩
  · simpa only [Rp] using h
  · exact h1.elim
theorem Bor.obj {i : Nat} {v : V} (h : Bor K mg W (.obj i) v) : ∃ a, v = .ref a ∧ W.as[i]? = some a := by
  rcases h with h | ⟨a, ev, _, h1⟩
  · simpa only [Rp] using h
  · exact h1.elim
theorem RpL.get {as : List Addr} {G : Hp} : ∀ {ds : List D} {vs : List V} {i : Nat} {v : V}, RpL K mg as G ds vs → vs[i]? = some v → ∃ d, ds[i]? = some d ∧ Rp K mg as G d v
  | [], vs, i, v, h, e => by simp only [RpL] at h; subst h; simp at e
  | d :: ds, vs, 0, v, h, e => by
    simp only [RpL] at h
    obtain ⟨w, r, e1, h1, _⟩ := h
    subst e1
    simp at e; subst e
    exact ⟨d, rfl, h1⟩
  | d :: ds, vs, i + 1, v, h, e => by
    simp only [RpL] at h
    obtain ⟨w, r, e1, _, h2⟩ := h
    subst e1
    obtain ⟨x, e2, q⟩ := RpL.get (i := i) h2 (by simpa using e)
    exact ⟨x, by simpa using e2, q⟩
theorem RpL.get' {as : List Addr} {G : Hp} : ∀ {ds : List D} {vs : List V} {i : Nat} {d : D}, RpL K mg as G ds vs → ds[i]? = some d → ∃ v, vs[i]? = some v ∧ Rp K mg as G d v
  | [], vs, i, v, h, e => by simp at e
  | d :: ds, vs, 0, v, h, e => by
    simp only [RpL] at h
    obtain ⟨w, r, e1, h1, _⟩ := h
    subst e1
    simp at e; subst e
    exact ⟨w, rfl, h1⟩
  | d :: ds, vs, i + 1, v, h, e => by
    simp only [RpL] at h
    obtain ⟨w, r, e1, _, h2⟩ := h
    subst e1
    obtain ⟨x, e2, q⟩ := RpL.get' (i := i) h2 (by simpa using e)
    exact ⟨x, by simpa using e2, q⟩
theorem RpL.app {as : List Addr} {G : Hp} : ∀ {ds es : List D} {vs us : List V}, RpL K mg as G ds vs → RpL K mg as G es us → RpL K mg as G (ds ++ es) (vs ++ us)
  | [], es, vs, us, h, g => by simp only [RpL] at h; subst h; exact g
  | d :: ds, es, vs, us, h, g => by
    simp only [RpL] at h
    obtain ⟨w, r, e1, h1, h2⟩ := h
    subst e1
    show RpL K mg as G (d :: (ds ++ es)) (w :: (r ++ us))
    simp only [RpL]
    exact ⟨w, _, rfl, h1, RpL.app h2 g⟩
theorem RpL.take {as : List Addr} {G : Hp} : ∀ {ds : List D} {vs : List V} (n : Nat), RpL K mg as G ds vs → RpL K mg as G (ds.take n) (vs.take n)
  | [], vs, n, h => by simp only [RpL] at h; subst h; simp [RpL]
  | d :: ds, vs, 0, h => by simp [RpL]
  | d :: ds, vs, n + 1, h => by
    simp only [RpL] at h
    obtain ⟨w, r, e1, h1, h2⟩ := h
    subst e1
    simp only [List.take_succ_cons, RpL]
    exact ⟨w, _, rfl, h1, RpL.take n h2⟩
theorem RpL.drop {as : List Addr} {G : Hp} : ∀ {ds : List D} {vs : List V} (n : Nat), RpL K mg as G ds vs → RpL K mg as G (ds.drop n) (vs.drop n)
  | [], vs, n, h => by simp only [RpL] at h; subst h; simp [RpL]
  | d :: ds, vs, 0, h => by simpa using h
  | d :: ds, vs, n + 1, h => by
    simp only [RpL] at h
    obtain ⟨w, r, e1, h1, h2⟩ := h
    subst e1
    simpa using RpL.drop n h2
theorem RpL.ints {as : List Addr} {G : Hp} : ∀ {ds : List D} {ns : List Int} {vs : List V}, RpL K mg as G (ns.map D.int) vs → vs = ns.map V.int
  | _, [], vs, h => by simpa [RpL] using h
  | _, n :: ns, vs, h => by
    simp only [List.map_cons, RpL] at h
    obtain ⟨w, r, e1, h1, h2⟩ := h
    simp only [Rp] at h1
    rw [e1, h1, RpL.ints (ds := []) h2, List.map_cons]
theorem RpL.bls {as : List Addr} {G : Hp} : ∀ {ns : List Bool} {vs : List V}, RpL K mg as G (ns.map D.bl) vs → vs = ns.map V.bl
  | [], vs, h => by simpa [RpL] using h
  | n :: ns, vs, h => by
    simp only [List.map_cons, RpL] at h
    obtain ⟨w, r, e1, h1, h2⟩ := h
    simp only [Rp] at h1
    rw [e1, h1, RpL.bls h2, List.map_cons]
theorem RpL.strs {as : List Addr} {G : Hp} : ∀ {ns : List Str} {vs : List V}, RpL K mg as G (ns.map D.str) vs → vs = ns.map V.str
  | [], vs, h => by simpa [RpL] using h
  | n :: ns, vs, h => by
    simp only [List.map_cons, RpL] at h
    obtain ⟨w, r, e1, h1, h2⟩ := h
    simp only [Rp] at h1
    rw [e1, h1, RpL.strs h2, List.map_cons]
theorem RpL.nil_iff {as : List Addr} {G : Hp} {ds : List D} {vs : List V} (h : RpL K mg as G ds vs) : vs = [] ↔ ds = [] := by
  have := h.len
  cases ds <;> cases vs <;> simp_all
end

/-! ### names, constants -/
@[simp] def frozen : Option (Bool × D) → Option D
  | some (false, d) => some d
  | _ => none
@[simp] def eVar (i : Nat) : Ex := fun env => lift (frozen (env i))
@[simp] def eVarB (i : Nat) : Ex := fun env => lift ((env i).map Prod.snd)
@[simp] def eC (d : D) : Ex := fun _ => ret d
section
variable {C : Cn}
theorem se_var {i : Nat} {x : Str} {pos : Pos} (hN : C.X.N[i]? = some x) (hv : Vis C.X.env.scope x) (hd : (x == ("__debug__" : Str)) = false := by decide) (hcd : (x == ("__classdict__" : Str)) = false := by decide) : SE C .froz (.Name x pos) (eVar i) :=
  SE.mk fun pins s σ env W st Q I R o => by
    have o' : Out C σ W (lift (frozen (env i)) st) _ := o
    cases q : env i with
    | none => rw [q] at o'; exact False.elim o'
    | some d =>
      obtain ⟨b, d⟩ := d
      rw [q] at o'
      cases b with
      | true => exact False.elim o'
      | false =>
        obtain ⟨v, h1, h2⟩ := R.slot i _ d q
        rw [if_neg Bool.false_ne_true] at h2
        exact (pe_var (X := C.X) hN hv hd hcd).run pins s σ W.H Q I ⟨v, h1, o' v W (.refl W) R.ok h2⟩
/-- a name, looked at alone -/
theorem se_varB {i : Nat} {x : Str} {pos : Pos} (hN : C.X.N[i]? = some x) (hv : Vis C.X.env.scope x) (hd : (x == ("__debug__" : Str)) = false := by decide) (hcd : (x == ("__classdict__" : Str)) = false := by decide) : SE C .bor (.Name x pos) (eVarB i) :=
  SE.mk fun pins s σ env W st Q I R o => by
    have o' : Out C σ W (lift ((env i).map Prod.snd) st) _ := o
    cases q : env i with
    | none => rw [q] at o'; exact False.elim o'
    | some d =>
      obtain ⟨b, d⟩ := d
      rw [q] at o'
      obtain ⟨v, h1, h2⟩ := R.slot i b d q
      refine (pe_var (X := C.X) hN hv hd hcd).run pins s σ W.H Q I ⟨v, h1, o' v W (.refl W) R.ok ?_⟩
      by_cases z : b = true
      · rw [if_pos z] at h2; exact h2.bor
      · rw [if_neg z] at h2; exact .inl h2
theorem se_C {e : Expr} {d : D} {v : V} (h : PE C.X e (tC v)) (r : ∀ W : Wd, C.rp W d v) : SE C .froz e (eC d) :=
  SE.mk fun pins s σ env W st Q I R o => h.run pins s σ W.H Q I ((show (∀ v W', Ext W W' → C.ok W' st → C.rk .froz W W' d v → Q v W'.H) from o) v W (.refl W) R.ok (r W))
theorem se_int {i j pos} : SE C .froz (.Constant (.int i) j pos) (eC (.int i)) := se_C pe_int fun _ => by simp [Rp]
theorem se_bl {i j pos} : SE C .froz (.Constant (.bool i) j pos) (eC (.bl i)) := se_C pe_bl fun _ => by simp [Rp]
theorem se_non {j pos} : SE C .froz (.Constant .none j pos) (eC .non) := se_C pe_non fun _ => by simp [Rp]
theorem se_str {i j pos} : SE C .froz (.Constant (.str i) j pos) (eC (.str i)) := se_C pe_str fun _ => by simp [Rp]
theorem se_gint {x : Str} {i : Int} {pos : Pos} (hm : ∃ t, C.X.mg x = some (.int i t)) (hg : Gl C.X x := by rfl) (hd : (x == ("__debug__" : Str)) = false := by decide) : SE C .froz (.Name x pos) (eC (.int i)) :=
  let ⟨t, e⟩ := hm; se_C (pe_glob hg e (show RelV (.int i) _ from ⟨t, rfl⟩) hd) fun _ => by simp [Rp]
theorem se_gstr {x z : Str} {pos : Pos} (hm : ∃ t, C.X.mg x = some (.str z t)) (hg : Gl C.X x := by rfl) (hd : (x == ("__debug__" : Str)) = false := by decide) : SE C .froz (.Name x pos) (eC (.str z)) :=
  let ⟨t, e⟩ := hm; se_C (pe_glob hg e (show RelV (.str z) _ from ⟨t, rfl⟩) hd) fun _ => by simp [Rp]
theorem se_glo {x : Str} {f : Addr} {pos : Pos} (hm : C.X.mg x = some (.ref f)) (hg : Gl C.X x := by rfl) (hd : (x == ("__debug__" : Str)) = false := by decide) : SE C .froz (.Name x pos) (eC (.glo x)) :=
  se_C (pe_glob hg hm (show RelV (.ref f) _ from rfl) hd) fun _ => by simp only [Rp]; exact ⟨f, rfl, hm⟩
/-- an object of the module, of constants -/
theorem se_gobj {x : Str} {f : Addr} {d : D} {pos : Pos} (hm : C.X.mg x = some (.ref f)) (r : ∀ W : Wd, C.rp W d (.ref f)) (hg : Gl C.X x := by rfl) (hd : (x == ("__debug__" : Str)) = false := by decide) : SE C .froz (.Name x pos) (eC d) :=
  se_C (pe_glob hg hm (show RelV (.ref f) _ from rfl) hd) r
end

/-! ### operators -/
/-- an operation on two values -/
def SOp (C : Cn) (κ : Kd) (f : Value → Value → Sem Value) (g : D → D → M D) : Prop :=
  ∀ (pins : List (Addr × Obj)) (s : Shared) (σ : L2.St) (W : Wd) (st : Store) (d1 d2 : D) (x y : V) (u v : Value) (Q : VK), Inv C.X pins σ W.H s → C.ok W st → Bor C.X.K C.X.mg W d1 x → Bor C.X.K C.X.mg W d2 y → RelV x u → RelV y v →
    (Out C σ W (g d1 d2 st) fun d st' => ∀ z W', Ext W W' → C.ok W' st' → C.rk κ W W' d z → Q z W'.H) → wpAny (model C.X.prog C.X.w) C.X.A (f u v) (EP C.X pins σ Q) C.X.xe s
@[simp] def eBin (g : D → D → M D) (a b : Ex) : Ex := fun env => bnd (a env) fun x => bnd (b env) fun y => g x y
@[simp] def pur (g : D → D → Option D) : D → D → M D := fun a b => lift (g a b)
section
variable {C : Cn} {κ κa κb : Kd} {a b c e : Expr} {ma mb mc : Ex} {pos : Pos} {g : D → D → M D}
theorem bin_go {pins : List (Addr × Obj)} {s : Shared} {σ : L2.St} {env : En} {W : Wd} {st : Store} {f : Value → Value → Sem Value} {Q : VK} (ho : SOp C κ f g) (ha : SE C κa a ma) (hb : SE C κb b mb) (I : Inv C.X pins σ W.H s) (R : SR C env W st σ)
    (o : Out C σ W (eBin g ma mb env st) fun d st' => ∀ z W', Ext W W' → C.ok W' st' → C.rk κ W W' d z → Q z W'.H) :
    wpAny (model C.X.prog C.X.w) C.X.A (eval a C.X.env) (fun v s₁ => wpAny (model C.X.prog C.X.w) C.X.A (eval b C.X.env) (fun u s₂ => wpAny (model C.X.prog C.X.w) C.X.A (f v u) (EP C.X pins σ Q) C.X.xe s₂) C.X.xe s₁) C.X.xe s := by
  refine ha.go I R (Out.bnd o |>.imp fun d1 st1 o1 x u s1 W1 e1 k1 r1 I1 ru => ?_)
  refine hb.go I1 (R.up e1 k1) (Out.bnd (o1.up e1) |>.imp fun d2 st2 o2 y v s2 W2 e2 k2 r2 I2 rv => ?_)
  exact ho pins s2 σ W2 st2 d1 d2 x y u v Q I2 k2 (r1.bor.ext e2) r2.bor ru rv ((o2.up e2).imp fun d st' hq z W' e3 k3 r3 => hq z W' ((e1.trans e2).trans e3) k3 (r3.down (e1.trans e2)))
theorem se_bin {op : Operator} (ho : SOp C κ (binaryOp op) g) (ha : SE C κa a ma) (hb : SE C κb b mb) : SE C κ (.BinOp a op b pos) (eBin g ma mb) :=
  SE.mk fun pins s σ env W st Q I R o => wpAny_BinOp (bin_go ho ha hb I R o)
theorem se_cmp {op : CmpOp} (ho : SOp C κ (compareOp op) g) (ha : SE C κa a ma) (hb : SE C κb b mb) (hm : behindInMarks op b = false) : SE C κ (.Compare a [op] [b] pos) (eBin g ma mb) :=
  SE.mk fun pins s σ env W st Q I R o => wpAny_Compare1 (bin_go ho ha hb I R o) hm
end

/-! ### the operators -/
abbrev line : Nat := 16777216
def small (i : Int) : Bool := decide (-(2 ^ 64) < i ∧ i < 2 ^ 64)
def mulOk (i j : Int) : Bool := small i || small j || decide (i.natAbs.log2 + j.natAbs.log2 < 1000000)
def addD : D → D → Option D
  | .int a, .int b => some (.int (a + b))
  | .str a, .str b => if a.length + b.length ≤ line then some (.str (a ++ b)) else none
  | .tup a, .tup b => if a.length + b.length ≤ line then some (.tup (a ++ b)) else none
  | _, _ => none
def addL : D → D → Option D
  | .lst a, .lst b => if a.length + b.length ≤ line then some (.lst (a ++ b)) else none
  | _, _ => none
def subD : D → D → Option D
  | .int a, .int b => some (.int (a - b))
  | _, _ => none
def mulD : D → D → Option D
  | .int a, .int b => if mulOk a b then some (.int (a * b)) else none
  | _, _ => none
/-- a list times a number -/
def mulL : D → D → Option D
  | .lst a, .int b => if -(2 ^ 63) ≤ b ∧ b < 2 ^ 63 ∧ a.length * b.toNat ≤ line then some (.lst (List.replicate b.toNat a).flatten) else none
  | _, _ => none
def modD : D → D → Option D
  | .int a, .int b => if b = 0 then none else some (.int (a.fmod b))
  | _, _ => none
/-- a positive divisor, or a small one -/
def fdivD : D → D → Option D
  | .int a, .int b => if 0 < b ∧ b.natAbs.log2 < 9000 ∨ (b ≠ 0 ∧ b.natAbs < 1073741824) then some (.int (a.fdiv b)) else none
  | _, _ => none
def powD : D → D → Option D
  | .int a, .int b => if 0 ≤ b ∧ b ≤ 1000000 ∧ a.natAbs < 2 ^ 64 then some (.int (a ^ b.toNat)) else none
  | _, _ => none
theorem line_eq : line = sizeLine := sizeLine_eq.symm
section
variable {C : Cn}
theorem Out.get {α : Type} {a : α} {σ : L2.St} {W : Wd} {st : Store} {k : α → Store → Prop} (o : Out C σ W (lift (some a) st) k) : k a st := o
theorem rp_int {W : Wd} {i : Int} : C.rk .froz W W (.int i) (.int i) := by simp [Cn.rk, RK, Rp]
theorem rk_int {W W' : Wd} {i : Int} : C.rk .froz W W' (.int i) (.int i) := by simp [Cn.rk, RK, Rp]
theorem rk_bl {W W' : Wd} {i : Bool} : C.rk .froz W W' (.bl i) (.bl i) := by simp [Cn.rk, RK, Rp]
theorem rk_str {W W' : Wd} {i : Str} : C.rk .froz W W' (.str i) (.str i) := by simp [Cn.rk, RK, Rp]
theorem rk_non {W W' : Wd} : C.rk .froz W W' .non .non := by simp [Cn.rk, RK, Rp]
/-- an operation of two ints -/
theorem sop_int {f : Value → Value → Sem Value} {c : Int → Int → Bool} {g : Int → Int → Int} (h : OpR C.X f (rI (fun i j => c i j = true) fun i j => .int (g i j))) :
    SOp C .froz f (pur fun x y => match x, y with | .int a, .int b => if c a b then some (.int (g a b)) else none | _, _ => none) := by
  intro pins s σ W st d1 d2 x y u v Q I k b1 b2 ru rv o
  cases d1 with
  | int a =>
    cases d2 with
    | int b =>
      have e1 := b1.int
      have e2 := b2.int
      subst e1 e2
      have o' : Out C σ W (lift (if c a b = true then some (D.int (g a b)) else none) st) _ := o
      by_cases z : c a b = true
      · rw [if_pos z] at o'
        exact h pins s σ W.H _ _ u v Q I ru rv ⟨a, b, rfl, rfl, z, o' (.int (g a b)) W (.refl W) k rk_int⟩
      · rw [if_neg z] at o'; exact False.elim o'
    | _ => exact (show False from o).elim
  | _ => exact (show False from o).elim
theorem OpR.weak {X : Cx} {f : Value → Value → Sem Value} {r r' : R2} (h : OpR X f r) (q : ∀ x y H Q, r' x y H Q → r x y H Q) : OpR X f r' := fun pins s σ H x y v u Q I rx ry z => h pins s σ H x y v u Q I rx ry (q x y H Q z)
theorem sop_ext {κ : Kd} {f : Value → Value → Sem Value} {g g' : D → D → M D} (h : SOp C κ f g) (e : ∀ x y, g' x y = g x y) : SOp C κ f g' := by
  intro pins s σ W st d1 d2 x y u v Q I k b1 b2 ru rv o
  rw [e] at o
  exact h pins s σ W st d1 d2 x y u v Q I k b1 b2 ru rv o
theorem sop_sub : SOp C .froz (binaryOp .Sub) (pur subD) := sop_ext (sop_int (c := fun _ _ => true) (OpR.weak op_sub fun x y H Q ⟨i, j, h1, h2, _, h3⟩ => ⟨i, j, h1, h2, h3⟩)) fun x y => by
  unfold pur subD
  cases x <;> cases y <;> simp
theorem sop_mul : SOp C .froz (binaryOp .Mult) (pur mulD) := sop_ext (sop_int (c := mulOk) (g := fun i j => i * j) (fun pins s σ H x y v u Q I rx ry ⟨i, j, h1, h2, h3, h4⟩ => by
  unfold mulOk small at h3
  simp only [Bool.or_eq_true, decide_eq_true_eq] at h3
  rcases h3 with h3 | h3
  · exact op_mul pins s σ H x y v u Q I rx ry ⟨i, j, h1, h2, h3, h4⟩
  · exact op_mulW pins s σ H x y v u Q I rx ry ⟨i, j, h1, h2, h3, h4⟩)) fun x y => by
  unfold pur mulD
  cases x <;> cases y <;> rfl
theorem sop_mod : SOp C .froz (binaryOp .Mod) (pur modD) := sop_ext (sop_int (c := fun _ j => decide (j ≠ 0)) (g := fun i j => i.fmod j) (OpR.weak op_modN fun x y H Q ⟨i, j, h1, h2, h3, h4⟩ => ⟨i, j, h1, h2, of_decide_eq_true h3, h4⟩)) fun x y => by
  unfold pur modD
  cases x <;> cases y <;> simp
theorem sop_fdiv : SOp C .froz (binaryOp .FloorDiv) (pur fdivD) := sop_ext (sop_int (c := fun _ j => decide (0 < j ∧ j.natAbs.log2 < 9000 ∨ (j ≠ 0 ∧ j.natAbs < 1073741824))) (g := fun i j => i.fdiv j) (fun pins s σ H x y v u Q I rx ry ⟨i, j, h1, h2, h3, h4⟩ => by
  rcases of_decide_eq_true h3 with h3 | h3
  · refine op_fdivW pins s σ H x y v u Q I rx ry ⟨i, j, h1, h2, h3, ?_⟩
    show Q (.int (i / j)) H
    have e : i.fdiv j = i / j := Int.fdiv_eq_ediv_of_nonneg i (by omega)
    rw [← e]
    exact h4
  · exact op_fdivN pins s σ H x y v u Q I rx ry ⟨i, j, h1, h2, h3, h4⟩)) fun x y => by
  unfold pur fdivD
  cases x <;> cases y <;> simp
theorem sop_pow : SOp C .froz (binaryOp .Pow) (pur powD) := sop_ext (sop_int (c := fun i j => decide (0 ≤ j ∧ j ≤ 1000000 ∧ i.natAbs < 2 ^ 64)) (g := fun i j => i ^ j.toNat) (OpR.weak op_pow fun x y H Q ⟨i, j, h1, h2, h3, h4⟩ => ⟨i, j, h1, h2, (of_decide_eq_true h3 : 0 ≤ j ∧ j ≤ 1000000 ∧ i.natAbs < 2 ^ 64), h4⟩)) fun x y => by
  unfold pur powD
  cases x <;> cases y <;> simp
theorem sop_add : SOp C .froz (binaryOp .Add) (pur addD) := by
  intro pins s σ W st d1 d2 x y u v Q I k b1 b2 ru rv o
  cases d1 with
  | int a =>
    cases d2 with
    | int b =>
      have e1 := b1.int
      have e2 := b2.int
      subst e1 e2
      exact op_add pins s σ W.H _ _ u v Q I ru rv ⟨a, b, rfl, rfl, Out.get o (.int (a + b)) W (.refl W) k rk_int⟩
    | _ => exact (show False from o).elim
  | str a =>
    cases d2 with
    | str b =>
      have e1 := b1.str
      have e2 := b2.str
      subst e1 e2
      have o' : Out C σ W (lift (if a.length + b.length ≤ line then some (D.str (a ++ b)) else none) st) _ := o
      by_cases z : a.length + b.length ≤ line
      · rw [if_pos z] at o'
        exact op_add_str pins s σ W.H _ _ u v Q I ru rv ⟨a, b, rfl, rfl, by rw [← line_eq]; exact z, o' (.str (a ++ b)) W (.refl W) k rk_str⟩
      · rw [if_neg z] at o'; exact False.elim o'
    | _ => exact (show False from o).elim
  | tup ds =>
    cases d2 with
    | tup es =>
      obtain ⟨a, xs, e1, s1, l1⟩ := b1.tup k
      obtain ⟨b, ys, e2, s2, l2⟩ := b2.tup k
      have o' : Out C σ W (lift (if ds.length + es.length ≤ line then some (D.tup (ds ++ es)) else none) st) _ := o
      by_cases z : ds.length + es.length ≤ line
      · rw [if_pos z] at o'
        have q : ∀ v W', Ext W W' → C.ok W' st → C.rk .froz W W' (.tup (ds ++ es)) v → Q v W'.H := o'
        have f1 : C.rp W (.tup ds) x := by
          rcases b1 with h | ⟨_, _, _, h⟩
          · exact h
          · exact h.elim
        have f2 : C.rp W (.tup es) y := by
          rcases b2 with h | ⟨_, _, _, h⟩
          · exact h
          · exact h.elim
        subst e1 e2
        refine op_catF pins s σ W.H _ _ u v Q I ru rv ⟨a, b, xs, ys, rfl, rfl, s1, s2, by rw [← line_eq, ← l1.len, ← l2.len]; exact z, fun e => ?_, fun e => ?_, fun p o np no => ?_⟩
        · have : ds = [] := l1.nil_iff.mp e
          subst this
          exact q _ W (.refl W) k f2
        · have : es = [] := l2.nil_iff.mp e
          subst this
          refine q _ W (.refl W) k ?_
          rw [List.append_nil]
          exact f1
        · exact q (.ref p) (W.newT p o (xs ++ ys)) (newT_ext k np) (newT_ok k np) (newT_rp k np no (l1.app l2))
      · rw [if_neg z] at o'; exact False.elim o'
    | _ => exact (show False from o).elim
  | _ => exact (show False from o).elim
theorem sop_addL : SOp C .fresh (binaryOp .Add) (pur addL) := by
  intro pins s σ W st d1 d2 x y u v Q I k b1 b2 ru rv o
  cases d1 with
  | lst ds =>
    cases d2 with
    | lst es =>
      obtain ⟨a, xs, e1, s1, l1⟩ := b1.lst k
      obtain ⟨b, ys, e2, s2, l2⟩ := b2.lst k
      have o' : Out C σ W (lift (if ds.length + es.length ≤ line then some (D.lst (ds ++ es)) else none) st) _ := o
      by_cases z : ds.length + es.length ≤ line
      · rw [if_pos z] at o'
        subst e1 e2
        refine op_cat pins s σ W.H _ _ u v Q I ru rv ⟨a, b, xs, ys, rfl, rfl, s1, s2, by rw [← line_eq, ← l1.len, ← l2.len]; exact z, fun p np => ?_⟩
        exact o' (.ref p) (W.new p (.lst (xs ++ ys))) (new_ext np) (new_ok k np) (new_lst k np (l1.app l2))
      · rw [if_neg z] at o'; exact False.elim o'
    | _ => exact (show False from o).elim
  | _ => exact (show False from o).elim
theorem RpL.rep {K : PySem.W.Frag} {mg : Str → Option Value} {as : List Addr} {G : Hp} {ds : List D} {vs : List V} (h : RpL K mg as G ds vs) : ∀ n : Nat, RpL K mg as G (List.replicate n ds).flatten (List.replicate n vs).flatten
  | 0 => by simp [RpL]
  | n + 1 => by
    rw [List.replicate_succ, List.replicate_succ, List.flatten_cons, List.flatten_cons]
    exact h.app (RpL.rep h n)
theorem sop_mulL : SOp C .fresh (binaryOp .Mult) (pur mulL) := by
  intro pins s σ W st d1 d2 x y u v Q I k b1 b2 ru rv o
  cases d1 with
  | lst ds =>
    cases d2 with
    | int n =>
      obtain ⟨a, xs, e1, s1, l1⟩ := b1.lst k
      have e2 := b2.int
      have o' : Out C σ W (lift (if -(2 ^ 63) ≤ n ∧ n < 2 ^ 63 ∧ ds.length * n.toNat ≤ line then some (D.lst (List.replicate n.toNat ds).flatten) else none) st) _ := o
      by_cases z : -(2 ^ 63) ≤ n ∧ n < 2 ^ 63 ∧ ds.length * n.toNat ≤ line
      · rw [if_pos z] at o'
        subst e1 e2
        refine op_rep pins s σ W.H _ _ u v Q I ru rv ⟨a, n, xs, rfl, rfl, s1, z.1, z.2.1, by rw [← line_eq, ← l1.len]; exact z.2.2, fun p np => ?_⟩
        exact o' (.ref p) (W.new p (.lst (List.replicate n.toNat xs).flatten)) (new_ext np) (new_ok k np) (new_lst k np (l1.rep _))
      · rw [if_neg z] at o'; exact False.elim o'
    | _ => exact (show False from o).elim
  | _ => exact (show False from o).elim
end
end Sm


set_option Elab.async false
set_option linter.all false
set_option maxRecDepth 100000
set_option maxHeartbeats 1000000
/-! Sm3: data as the library's PyData; comparisons, membership. -/
namespace Sm
open PySem PySem.Spec L2
mutual
def D.py : D → PyData
  | .non => .none
  | .bl b => .bool b
  | .int i => .int i
  | .str x => .str x
  | .tup xs => .tuple (pyL xs)
  | .lst xs => .list (pyL xs)
  | .dct kvs => .dict (pyK kvs)
  | .obj _ => .none
  | .glo _ => .none
  | .raw _ => .none
  | .scr _ => .none
def pyL : List D → List PyData
  | [] => []
  | x :: xs => x.py :: pyL xs
def pyK : List (D × D) → List (PyData × PyData)
  | [] => []
  | (k, v) :: r => (k.py, v.py) :: pyK r
end
mutual
/-- data of at most that depth -/
def dat : Nat → D → Bool
  | _, .non => true
  | _, .bl _ => true
  | _, .int _ => true
  | _, .str _ => true
  | n + 1, .tup xs => datL n xs
  | n + 1, .lst xs => datL n xs
  | n + 1, .dct kvs => datK n kvs
  | _, _ => false
def datL : Nat → List D → Bool
  | _, [] => true
  | n, x :: xs => dat n x && datL n xs
def datK : Nat → List (D × D) → Bool
  | _, [] => true
  | n, (k, v) :: r => dat n k && dat n v && datK n r
end
mutual
/-- .. without dicts -/
def shp : Nat → D → Bool
  | _, .non => true
  | _, .bl _ => true
  | _, .int _ => true
  | _, .str _ => true
  | n + 1, .tup xs => shpL n xs
  | n + 1, .lst xs => shpL n xs
  | _, _ => false
def shpL : Nat → List D → Bool
  | _, [] => true
  | n, x :: xs => shp n x && shpL n xs
end
theorem shpL_all (n : Nat) : ∀ xs : List D, shpL n xs = xs.all (shp n)
  | [] => by simp [shpL]
  | x :: xs => by simp [shpL, shpL_all n xs]
theorem datL_all (n : Nat) : ∀ xs : List D, datL n xs = xs.all (dat n)
  | [] => by simp [datL]
  | x :: xs => by simp [datL, datL_all n xs]
theorem pyL_map : ∀ xs : List D, pyL xs = xs.map D.py
  | [] => rfl
  | x :: xs => by simp [pyL, pyL_map xs]
mutual
theorem dat_of_shp : ∀ (n : Nat) (d : D), shp n d = true → dat n d = true
  | _, .non, _ => by simp [dat]
  | _, .bl _, _ => by simp [dat]
  | _, .int _, _ => by simp [dat]
  | _, .str _, _ => by simp [dat]
  | 0, .tup xs, h => by simp [shp] at h
  | 0, .lst xs, h => by simp [shp] at h
  | n + 1, .tup xs, h => by
    simp only [shp] at h
    simp only [dat]
    exact datL_of_shp n xs h
  | n + 1, .lst xs, h => by
    simp only [shp] at h
    simp only [dat]
    exact datL_of_shp n xs h
  | n, .dct kvs, h => by simp [shp] at h
  | n, .obj _, h => by simp [shp] at h
  | n, .glo _, h => by simp [shp] at h
  | n, .raw _, h => by simp [shp] at h
  | n, .scr _, h => by simp [shp] at h
theorem datL_of_shp : ∀ (n : Nat) (ds : List D), shpL n ds = true → datL n ds = true
  | _, [], _ => by simp [datL]
  | n, d :: ds, h => by
    simp only [shpL, Bool.and_eq_true] at h
    simp only [datL, Bool.and_eq_true]
    exact ⟨dat_of_shp n d h.1, datL_of_shp n ds h.2⟩
end
mutual
theorem plain_of_shp : ∀ (n : Nat) (d : D), shp n d = true → d.py.plain = true
  | _, .non, _ => by simp [D.py, PyData.plain]
  | _, .bl _, _ => by simp [D.py, PyData.plain]
  | _, .int _, _ => by simp [D.py, PyData.plain]
  | _, .str _, _ => by simp [D.py, PyData.plain]
  | 0, .tup xs, h => by simp [shp] at h
  | 0, .lst xs, h => by simp [shp] at h
  | n + 1, .tup xs, h => by
    simp only [shp] at h
    simp only [D.py, PyData.plain]
    exact plainAll_of_shp n xs h
  | n + 1, .lst xs, h => by
    simp only [shp] at h
    simp only [D.py, PyData.plain]
    exact plainAll_of_shp n xs h
  | n, .dct kvs, h => by simp [shp] at h
  | n, .obj _, h => by simp [shp] at h
  | n, .glo _, h => by simp [shp] at h
  | n, .raw _, h => by simp [shp] at h
  | n, .scr _, h => by simp [shp] at h
theorem plainAll_of_shp : ∀ (n : Nat) (ds : List D), shpL n ds = true → PyData.plainAll (pyL ds) = true
  | _, [], _ => by simp [pyL, PyData.plainAll]
  | n, d :: ds, h => by
    simp only [shpL, Bool.and_eq_true] at h
    simp only [pyL, PyData.plainAll, Bool.and_eq_true]
    exact ⟨plain_of_shp n d h.1, plainAll_of_shp n ds h.2⟩
end
mutual
theorem depth_of_dat : ∀ (n : Nat) (d : D), dat n d = true → d.py.depth ≤ n
  | _, .non, _ => by simp [D.py, PyData.depth]
  | _, .bl _, _ => by simp [D.py, PyData.depth]
  | _, .int _, _ => by simp [D.py, PyData.depth]
  | _, .str _, _ => by simp [D.py, PyData.depth]
  | 0, .tup xs, h => by simp [dat] at h
  | 0, .lst xs, h => by simp [dat] at h
  | 0, .dct xs, h => by simp [dat] at h
  | n + 1, .tup xs, h => by
    simp only [dat] at h
    simp only [D.py, PyData.depth]
    exact Nat.succ_le_succ (depthL_of_dat n xs h)
  | n + 1, .lst xs, h => by
    simp only [dat] at h
    simp only [D.py, PyData.depth]
    exact Nat.succ_le_succ (depthL_of_dat n xs h)
  | n + 1, .dct xs, h => by
    simp only [dat] at h
    simp only [D.py, PyData.depth]
    exact Nat.succ_le_succ (depthK_of_dat n xs h)
  | n, .obj _, h => by simp [dat] at h
  | n, .glo _, h => by simp [dat] at h
  | n, .raw _, h => by simp [dat] at h
  | n, .scr _, h => by simp [dat] at h
theorem depthL_of_dat : ∀ (n : Nat) (ds : List D), datL n ds = true → PyData.depthAll (pyL ds) ≤ n
  | _, [], _ => by simp [pyL, PyData.depthAll]
  | n, d :: ds, h => by
    simp only [datL, Bool.and_eq_true] at h
    simp only [pyL, PyData.depthAll]
    exact Nat.max_le.mpr ⟨depth_of_dat n d h.1, depthL_of_dat n ds h.2⟩
theorem depthK_of_dat : ∀ (n : Nat) (ds : List (D × D)), datK n ds = true → PyData.depthKv (pyK ds) ≤ n
  | _, [], _ => by simp [pyK, PyData.depthKv]
  | n, (k, d) :: ds, h => by
    simp only [datK, Bool.and_eq_true] at h
    simp only [pyK, PyData.depthKv]
    exact Nat.max_le.mpr ⟨Nat.max_le.mpr ⟨depth_of_dat n k h.1.1, depth_of_dat n d h.1.2⟩, depthK_of_dat n ds h.2⟩
end
/-- what is said of the module's part: sys.modules stands in it -/
def Sysm (K : PySem.W.Frag) : Prop := ∃ o, K.lookup sysModules = some o
section
variable {X : Cx} {pins : List (Addr × Obj)} {σ : L2.St} {H G : Hp} {s : Shared} {as : List Addr}
theorem notSys (I : Inv X pins σ H s) (hs : Sysm X.K) {a : Addr} {o : HO} (h : H a = some o) : a ≠ sysModules := by
  obtain ⟨ob, e⟩ := hs
  intro z
  have := (I.bs sysModules ob (I.mod.kin _ _ e)).2
  rw [← z, h] at this
  cases this
theorem RpL.vals1 {K : PySem.W.Frag} {mg : Str → Option Value} {d : D} {vs : List V} (h : RpL K mg as G [d] vs) : ∃ v, vs = [v] ∧ Rp K mg as G d v := by
  simp only [RpL] at h
  obtain ⟨v, r, e, h1, h2⟩ := h
  subst h2
  exact ⟨v, e, h1⟩
mutual
theorem Rp.reads (I : Inv X pins σ H s) (hs : Sysm X.K) (g : ∀ a o, G a = some o → H a = some o) : ∀ (n : Nat) (d : D) (v : V) (u : Value), dat n d = true → Rp X.K X.mg as G d v → RelV v u → ∃ l, Reads s.heap u d.py l ∧ sysModules ∉ l
  | _, .non, v, u, _, h, r => by
    simp only [Rp] at h; subst h; cases r
    exact ⟨[], by simp only [D.py]; exact .none, by simp⟩
  | _, .bl b, v, u, _, h, r => by
    simp only [Rp] at h; subst h; cases r
    exact ⟨[], by simp only [D.py]; exact .bool _, by simp⟩
  | _, .int b, v, u, _, h, r => by
    simp only [Rp] at h; subst h; obtain ⟨t, rfl⟩ := r
    exact ⟨[], by simp only [D.py]; exact .int _ _, by simp⟩
  | _, .str b, v, u, _, h, r => by
    simp only [Rp] at h; subst h; obtain ⟨t, rfl⟩ := r
    exact ⟨[], by simp only [D.py]; exact .str _ _, by simp⟩
  | 0, .tup xs, v, u, hd, _, _ => by simp [dat] at hd
  | 0, .lst xs, v, u, hd, _, _ => by simp [dat] at hd
  | 0, .dct xs, v, u, hd, _, _ => by simp [dat] at hd
  | n + 1, .tup ds, v, u, hd, h, r => by
    simp only [dat] at hd
    simp only [Rp] at h
    obtain ⟨a, xs, e, sq, _, l⟩ := h
    subst e; cases r
    obtain ⟨its, rv, ⟨o, ho, hc, k, hk⟩, _⟩ := I.tuple (SqT.up g sq)
    obtain ⟨l', h1, h2⟩ := RpL.reads I hs g n ds xs its hd l rv
    exact ⟨l', by simp only [D.py]; exact .tuple ho hc hk h1, h2⟩
  | n + 1, .lst ds, v, u, hd, h, r => by
    simp only [dat] at hd
    simp only [Rp] at h
    obtain ⟨a, xs, e, sq, l⟩ := h
    subst e; cases r
    obtain ⟨z, its, k, rv, ho⟩ := I.hok a _ (g _ _ sq)
    obtain ⟨l', h1, h2⟩ := RpL.reads I hs g n ds xs its hd l rv
    exact ⟨a :: l', by simp only [D.py]; exact .list ho rfl rfl h1, by simp only [List.mem_cons, not_or]; exact ⟨fun z => notSys I hs (g _ _ sq) z.symm, h2⟩⟩
  | n + 1, .dct ds, v, u, hd, h, r => by
    simp only [dat] at hd
    simp only [Rp] at h
    obtain ⟨a, e, ⟨kvs, sq, l⟩ | ⟨kvs, sq, l⟩⟩ := h
    · subst e; cases r
      obtain ⟨z, z2, vs, kv, o, es, ep, ho, hex, hdt, hko, hp, hnd⟩ := I.hok a _ (g _ _ sq)
      obtain ⟨l1, l2, h1, h2, h3, h4⟩ := RpK.reads I hs g n ds kvs vs es.toList hd l kv hp
      refine ⟨a :: l1 ++ l2, by simp only [D.py]; exact .dict ho hex.1 hdt h1 h2, ?_⟩
      simp only [List.cons_append, List.mem_cons, List.mem_append, not_or]
      exact ⟨fun z => notSys I hs (g _ _ sq) z.symm, h3, h4⟩
    · subst e; cases r
      obtain ⟨z, z2, xs, pr, o, es, ep, ho, hex, hdt, hes, hnd⟩ := I.hok a _ (g _ _ sq)
      obtain ⟨l1, l2, h1, h2, h3, h4⟩ := RpT.reads I hs g n ds kvs xs hd l pr
      refine ⟨a :: l1 ++ l2, by simp only [D.py]; exact .dict ho hex.1 hdt (by rw [hes]; exact h1) (by rw [hes]; exact h2), ?_⟩
      simp only [List.cons_append, List.mem_cons, List.mem_append, not_or]
      exact ⟨fun z => notSys I hs (g _ _ sq) z.symm, h3, h4⟩
  | n, .obj _, v, u, hd, _, _ => by simp [dat] at hd
  | n, .glo _, v, u, hd, _, _ => by simp [dat] at hd
  | n, .raw _, v, u, hd, _, _ => by simp [dat] at hd
  | n, .scr _, v, u, hd, _, _ => by simp [dat] at hd
theorem RpL.reads (I : Inv X pins σ H s) (hs : Sysm X.K) (g : ∀ a o, G a = some o → H a = some o) : ∀ (n : Nat) (ds : List D) (vs : List V) (us : List Value), datL n ds = true → RpL X.K X.mg as G ds vs → Vals vs us → ∃ l, ReadsAll s.heap us (pyL ds) l ∧ sysModules ∉ l
  | _, [], vs, us, _, h, r => by
    simp only [RpL] at h; subst h; cases r
    exact ⟨[], by simp only [pyL]; exact .nil, by simp⟩
  | n, d :: ds, vs, us, hd, h, r => by
    simp only [datL, Bool.and_eq_true] at hd
    simp only [RpL] at h
    obtain ⟨v, rr, e, h1, h2⟩ := h
    subst e
    cases r with
    | cons r1 r2 =>
      obtain ⟨l1, a1, a2⟩ := Rp.reads I hs g n d v _ hd.1 h1 r1
      obtain ⟨l2, b1, b2⟩ := RpL.reads I hs g n ds rr _ hd.2 h2 r2
      exact ⟨l1 ++ l2, by simp only [pyL]; exact .cons a1 b1, by simp only [List.mem_append, not_or]; exact ⟨a2, b2⟩⟩
theorem RpK.reads (I : Inv X pins σ H s) (hs : Sysm X.K) (g : ∀ a o, G a = some o → H a = some o) : ∀ (n : Nat) (ds : List (D × D)) (kvs : List (Key × V)) (vs : List (Key × Value)) (es : List DictEntry), datK n ds = true → RpK X.K X.mg as G ds kvs → KV kvs vs → Pairs (mixKind X.prog X.w) es vs →
    ∃ l1 l2, ReadsAll s.heap (es.map (·.key)) ((pyK ds).map (·.1)) l1 ∧ ReadsAll s.heap (es.map (·.val)) ((pyK ds).map (·.2)) l2 ∧ sysModules ∉ l1 ∧ sysModules ∉ l2
  | _, [], kvs, vs, es, _, h, r, p => by
    simp only [RpK] at h; subst h; cases r; cases p
    exact ⟨[], [], by simp only [pyK]; exact .nil, by simp only [pyK]; exact .nil, by simp, by simp⟩
  | n, (k, d) :: ds, kvs, vs, es, hd, h, r, p => by
    simp only [datK, Bool.and_eq_true] at hd
    simp only [RpK] at h
    obtain ⟨q, v, rr, e, ek, h1, h2⟩ := h
    subst e
    cases r with
    | cons r1 r2 =>
      cases p with
      | @cons e' _ es' _ p1 p2 p3 =>
        obtain ⟨l1, a1, a2⟩ := Rp.reads I hs g n d v _ hd.1.2 h1 r1.2
        obtain ⟨m1, m2, b1, b2, b3, b4⟩ := RpK.reads I hs g n ds rr _ _ hd.2 h2 r2 p3
        have hk : keyIs q e'.key = true := by
          have := p1
          rw [← r1.1] at this
          exact this
        have kr : ReadsAll s.heap (e'.key :: es'.map (·.key)) (k.py :: (pyK ds).map (·.1)) ([] ++ m1) := by
          refine .cons ?_ b1
          rw [ek]
          rcases keyIs_shape hk with ⟨i, t, rfl, e2⟩ | ⟨x, t, rfl, e2⟩
          · rw [e2]; simp only [kD, D.py]; exact .int _ _
          · rw [e2]; simp only [kD, D.py]; exact .str _ _
        refine ⟨[] ++ m1, l1 ++ m2, by simp only [pyK, List.map_cons]; exact kr, ?_, by simpa using b3, by simp only [List.mem_append, not_or]; exact ⟨a2, b4⟩⟩
        simp only [pyK, List.map_cons]
        refine .cons ?_ b2
        rw [p2]; exact a1
theorem RpT.reads (I : Inv X pins σ H s) (hs : Sysm X.K) (g : ∀ a o, G a = some o → H a = some o) : ∀ (n : Nat) (ds : List (D × D)) (kvs : List (List Key × V)) (xs : List (List Key × Addr × Value)), datK n ds = true → RpT X.K X.mg as G ds kvs →
    Paired (fun (p : List Key × V) (q : List Key × Addr × Value) => p.1 = q.1 ∧ H q.2.1 = some (.tup (p.1.map kV)) ∧ RelV p.2 q.2.2) kvs xs →
    ∃ l1 l2, ReadsAll s.heap ((xs.map (entryOfKey (tupleKind (mixKind X.prog X.w)))).map (·.key)) ((pyK ds).map (·.1)) l1 ∧ ReadsAll s.heap ((xs.map (entryOfKey (tupleKind (mixKind X.prog X.w)))).map (·.val)) ((pyK ds).map (·.2)) l2 ∧ sysModules ∉ l1 ∧ sysModules ∉ l2
  | _, [], kvs, xs, _, h, r => by
    simp only [RpT] at h; subst h; cases r
    exact ⟨[], [], by simp only [pyK]; exact .nil, by simp only [pyK]; exact .nil, by simp, by simp⟩
  | n, (k, d) :: ds, kvs, xs, hd, h, r => by
    simp only [datK, Bool.and_eq_true] at hd
    simp only [RpT] at h
    obtain ⟨q, v, rr, e, ek, h1, h2⟩ := h
    subst e
    cases r with
    | cons r1 r2 =>
      rename_i x xs'
      obtain ⟨l1, a1, a2⟩ := Rp.reads I hs g n d v _ hd.1.2 h1 r1.2.2
      obtain ⟨m1, m2, b1, b2, b3, b4⟩ := RpT.reads I hs g n ds rr _ hd.2 h2 r2
      obtain ⟨its, rv, ⟨o, ho, hc, kk, hk⟩, _⟩ := I.tuple (SqT.of r1.2.1)
      have ks : ∀ (q : List Key) (its : List Value), Vals (q.map kV) its → ReadsAll s.heap its (pyL (q.map kD)) [] := by
        intro q
        induction q with
        | nil => intro its rv; cases rv; exact .nil
        | cons y q ih =>
          intro its rv
          obtain ⟨b, bs, rfl, w1, w2⟩ : ∃ b bs, its = b :: bs ∧ RelV (kV y) b ∧ Vals (q.map kV) bs := by
            cases rv with
            | cons w1 w2 => exact ⟨_, _, rfl, w1, w2⟩
          have z1 : Reads s.heap b (kD y).py [] := by
            cases y with
            | inl i => obtain ⟨t, e⟩ := (show ∃ t, b = Value.int i t from w1); rw [e]; exact .int _ _
            | inr x => obtain ⟨t, e⟩ := (show ∃ t, b = Value.str x t from w1); rw [e]; exact .str _ _
          have z : ReadsAll s.heap (b :: bs) ((kD y).py :: pyL (q.map kD)) ([] ++ []) := .cons z1 (ih _ w2)
          simpa [pyL] using z
      have kr : ReadsAll s.heap (.ref x.2.1 :: (xs'.map (entryOfKey (tupleKind (mixKind X.prog X.w)))).map (·.key)) (k.py :: (pyK ds).map (·.1)) ([] ++ m1) := by
        refine .cons ?_ b1
        rw [ek]
        simp only [D.py]
        exact .tuple ho hc hk (ks q its rv)
      refine ⟨[] ++ m1, l1 ++ m2, by simp only [pyK, List.map_cons]; exact kr, ?_, by simpa using b3, by simp only [List.mem_append, not_or]; exact ⟨a2, b4⟩⟩
      simp only [pyK, List.map_cons]
      exact .cons a1 b2
end
end
end Sm


set_option Elab.async false
set_option linter.all false
set_option maxRecDepth 100000
set_option maxHeartbeats 1000000
/-! Sm4: comparisons, tests, displays, subscripts, slices. -/
namespace Sm
open PySem PySem.Spec L2
theorem PE.imp {X : Cx} {e : Expr} {t u : TE} (h : PE X e t) (q : ∀ σ H Q, u σ H Q → t σ H Q) : PE X e u := ⟨fun pins s σ H Q I z => h.run pins s σ H Q I (q σ H Q z)⟩
section
variable {C : Cn} {κ κa κb : Kd} {a b c e : Expr} {ma mb mc m : Ex} {pos : Pos} {g : D → D → M D}
theorem TEo.imp {σ : L2.St} {H : Hp} {Q Q' : VK} (h : TEo C κ m σ H Q) (q : ∀ v H, Q v H → Q' v H) : TEo C κ m σ H Q' := by
  obtain ⟨env, W, st, e, R, o⟩ := h
  exact ⟨env, W, st, e, R, o.imp fun d st' h v W' a b c => q _ _ (h v W' a b c)⟩
theorem te_un {σ : L2.St} {H : Hp} {Q : VK} {g1 : D → M D} {r : V → Hp → Prop} (hr : ∀ (W : Wd) (st : Store) (d : D) (x : V), C.ok W st → Bor C.X.K C.X.mg W d x →
      (Out C σ W (g1 d st) fun d' st' => ∀ z W', Ext W W' → C.ok W' st' → C.rk κ W W' d' z → Q z W'.H) → r x W.H)
    (h : TEo C κ (fun env => bnd (m env) g1) σ H Q) : TEo C κa m σ H r := by
  obtain ⟨env, W, st, e, R, o⟩ := h
  refine ⟨env, W, st, e, R, (Out.bnd o).imp fun d st' o' v W' e' k' r' => ?_⟩
  exact hr W' st' d v k' r'.bor ((o'.up e').imp fun d2 st2 hq z W2 e2 k2 r2 => hq z W2 (e'.trans e2) k2 (r2.down e'))
theorem te_bin {σ : L2.St} {H : Hp} {Q : VK} {r : R2} (hr : ∀ (W : Wd) (st : Store) (d1 d2 : D) (x y : V), C.ok W st → Bor C.X.K C.X.mg W d1 x → Bor C.X.K C.X.mg W d2 y →
      (Out C σ W (g d1 d2 st) fun d' st' => ∀ z W', Ext W W' → C.ok W' st' → C.rk κ W W' d' z → Q z W'.H) → r x y W.H Q)
    (h : TEo C κ (eBin g ma mb) σ H Q) : tOp r (TEo C κa ma) (TEo C κb mb) σ H Q := by
  obtain ⟨env, W, st, e, R, o⟩ := h
  refine ⟨env, W, st, e, R, (Out.bnd o).imp fun d1 st1 o1 x W1 e1 k1 r1 => ?_⟩
  refine ⟨env, W1, st1, rfl, R.up e1 k1, (Out.bnd (o1.up e1)).imp fun d2 st2 o2 y W2 e2 k2 r2 => ?_⟩
  exact hr W2 st2 d1 d2 x y k2 (r1.bor.ext e2) r2.bor ((o2.up e2).imp fun d3 st3 hq z W3 e3 k3 r3 => hq z W3 ((e1.trans e2).trans e3) k3 (r3.down (e1.trans e2)))

/-! ### tests -/
@[simp] def tru : D → M Bool
  | .bl b => ret b
  | .non => ret false
  | .int i => ret (i != 0)
  | .tup xs => ret (!xs.isEmpty)
  | .lst xs => ret (!xs.isEmpty)
  | _ => halt
@[simp] def tV (m : Ex) : Tx := fun env => bnd (m env) tru
theorem tru_ok {σ : L2.St} {W : Wd} {st : Store} {d : D} {x : V} {Q : Bool → Hp → Prop} (k : C.ok W st) (b : Bor C.X.K C.X.mg W d x) (o : Out C σ W (tru d st) fun b st' => ∀ W', Ext W W' → C.ok W' st' → Q b W'.H) : ∃ q, TruV C.X.K x W.H q ∧ Q q W.H := by
  cases d with
  | non => have := b.non; subst this; exact ⟨false, rfl, (show (∀ W', Ext W W' → C.ok W' st → Q false W'.H) from o) W (.refl W) k⟩
  | bl i => have := b.bl; subst this; exact ⟨i, rfl, (show (∀ W', Ext W W' → C.ok W' st → Q i W'.H) from o) W (.refl W) k⟩
  | int i => have := b.int; subst this; exact ⟨_, rfl, (show (∀ W', Ext W W' → C.ok W' st → Q (i != 0) W'.H) from o) W (.refl W) k⟩
  | tup ds =>
    obtain ⟨a, xs, e, s, l⟩ := b.tup k
    subst e
    refine ⟨!xs.isEmpty, .inr (.inl ⟨xs, s, rfl⟩), ?_⟩
    have : xs.isEmpty = ds.isEmpty := by
      have := l.len
      cases ds <;> cases xs <;> simp_all
    rw [this]
    exact (show (∀ W', Ext W W' → C.ok W' st → Q (!ds.isEmpty) W'.H) from o) W (.refl W) k
  | lst ds =>
    obtain ⟨a, xs, e, s, l⟩ := b.lst k
    subst e
    refine ⟨!xs.isEmpty, .inl ⟨xs, SqL.of s, rfl⟩, ?_⟩
    have : xs.isEmpty = ds.isEmpty := by
      have := l.len
      cases ds <;> cases xs <;> simp_all
    rw [this]
    exact (show (∀ W', Ext W W' → C.ok W' st → Q (!ds.isEmpty) W'.H) from o) W (.refl W) k
  | _ => exact False.elim o
/-- an expression as a test -/
theorem st_val (h : SE C κ e m) (he : ∀ whole, isTrue e C.X.env whole = (do let v ← whole; standAt e.pos; holding [v] (truthy v)) := by intro _; rfl) : ST C e (tV m) :=
  ⟨fun pins s σ H Q I ⟨env, W, st, hH, R, o⟩ => by
    subst hH
    refine (pt_truth h he).run pins s σ W.H Q I ⟨env, W, st, rfl, R, (Out.bnd o).imp fun d st' o' v W' e' k' r' => ?_⟩
    exact tru_ok k' r'.bor ((o'.up e').imp fun b st2 hq W2 e2 k2 => hq W2 (e'.trans e2) k2)⟩
theorem st_cmp {op : CmpOp} (ho : SOp C κ (compareOp op) g) (ha : SE C κa a ma) (hb : SE C κb b mb) (hm : behindInMarks op b = false) : ST C (.Compare a [op] [b] pos) (tV (eBin g ma mb)) :=
  ST.mk fun pins s σ env W st Q I R o => by
    refine wpAny_isTrue_Compare1 (thn (bin_go (Q := fun z H => ∃ q, TruV C.X.K z H q ∧ Q q H) ho ha hb I R ((Out.bnd o).imp fun d st' o' z W' e' k' r' => tru_ok k' r'.bor ((o'.up e').imp fun b st2 hq W2 e2 k2 => hq W2 (e'.trans e2) k2))) fun v s1 h1 => thn h1 fun u s2 h2 => thn h2 fun r s3 ⟨z, H3, I3, r3, q3⟩ => ?_) hm
    exact tru_ok_run I3 r3 q3
where
  tru_ok_run {pins : List (Addr × Obj)} {s : Shared} {σ : L2.St} {H : Hp} {x : V} {v : Value} {Q : Bool → Hp → Prop} (I : Inv C.X pins σ H s) (r : RelV x v) (h : ∃ k, TruV C.X.K x H k ∧ Q k H) : wpAny (model C.X.prog C.X.w) C.X.A (truthy v) (TP C.X pins σ Q) C.X.xe s := L2.tru_ok pins s σ H x v Q I r h
@[simp] def tAnd' (a b : Tx) : Tx := fun env => bnd (a env) fun x => if x = true then b env else ret false
@[simp] def tOr' (a b : Tx) : Tx := fun env => bnd (a env) fun x => if x = true then ret true else b env
@[simp] def tNot' (a : Tx) : Tx := fun env => bnd (a env) fun x => ret (!x)
variable {ta tb : Tx} {rest : List Expr}
theorem sw_and1 (ha : ST C a ta) : SW C (.BoolOp .And [a] pos) ta := pw_and1 ha
theorem sw_or1 (ha : ST C a ta) : SW C (.BoolOp .Or [a] pos) ta := pw_or1 ha
theorem tt_bind {σ : L2.St} {H : Hp} {Q : Bool → Hp → Prop} {u : Bool → Tx} {R : Bool → Hp → Prop} (h : TTo C (fun env => bnd (ta env) fun x => u x env) σ H Q) (q : ∀ x H, TTo C (u x) σ H Q → R x H) : TTo C ta σ H R := by
  obtain ⟨env, W, st, e, SR1, o⟩ := h
  refine ⟨env, W, st, e, SR1, (Out.bnd o).imp fun b st' o' W' e' k' => ?_⟩
  exact q b W'.H ⟨env, W', st', rfl, SR1.up e' k', (o'.up e').imp fun d st2 hq W2 e2 k2 => hq W2 (e'.trans e2) k2⟩
theorem tt_ret {σ : L2.St} {H : Hp} {Q : Bool → Hp → Prop} {x : Bool} (h : TTo C (fun _ => ret x) σ H Q) : Q x H := by
  obtain ⟨env, W, st, e, R, o⟩ := h
  subst e
  exact (show (∀ W', Ext W W' → C.ok W' st → Q x W'.H) from o) W (.refl W) R.ok
theorem PW.imp {X : Cx} {e : Expr} {t u : TT} (h : PW X e t) (q : ∀ σ H Q, u σ H Q → t σ H Q) : PW X e u := ⟨fun wh pins s σ H Q I z => h.run wh pins s σ H Q I (q σ H Q z)⟩
theorem PT.imp {X : Cx} {e : Expr} {t u : TT} (h : PT X e t) (q : ∀ σ H Q, u σ H Q → t σ H Q) : PT X e u := ⟨fun pins s σ H Q I z => h.run pins s σ H Q I (q σ H Q z)⟩
theorem sw_and (ha : ST C a ta) (hb : SW C (.BoolOp .And (b :: rest) pos) tb) : SW C (.BoolOp .And (a :: b :: rest) pos) (tAnd' ta tb) :=
  PW.imp (pw_and ha hb) fun σ H Q h => tt_bind (u := fun x env => if x = true then tb env else ret false) h fun x H1 h1 => by
    by_cases z : x = true
    · rw [if_pos z]; simp only [z, if_true] at h1; exact h1
    · rw [if_neg z]; simp only [z, if_false] at h1; exact tt_ret h1
theorem sw_or (ha : ST C a ta) (hb : SW C (.BoolOp .Or (b :: rest) pos) tb) : SW C (.BoolOp .Or (a :: b :: rest) pos) (tOr' ta tb) :=
  PW.imp (pw_or ha hb) fun σ H Q h => tt_bind (u := fun x env => if x = true then ret true else tb env) h fun x H1 h1 => by
    by_cases z : x = true
    · rw [if_pos z]; simp only [z, if_true] at h1; exact tt_ret h1
    · rw [if_neg z]; simp only [z, if_false] at h1; exact h1
theorem SW.st (h : SW C e ta) : ST C e ta := PW.pt h
theorem st_not (ha : ST C a ta) : ST C (.UnaryOp .Not a pos) (tNot' ta) :=
  PT.imp (pt_not ha) fun σ H Q h => tt_bind (u := fun x _ => ret (!x)) h fun x H1 h1 => tt_ret h1

/-! ### and, or, not, if as values -/
@[simp] def eAnd (a b : Ex) : Ex := fun env => bnd (a env) fun x => match x with
  | .bl true => b env
  | .bl false => ret (.bl false)
  | _ => halt
@[simp] def eOr (a b : Ex) : Ex := fun env => bnd (a env) fun x => match x with
  | .bl true => ret (.bl true)
  | .bl false => b env
  | _ => halt
@[simp] def notD : D → M D
  | .bl b => ret (.bl (!b))
  | _ => halt
@[simp] def eNot (a : Ex) : Ex := fun env => bnd (a env) notD
@[simp] def eIf (t : Tx) (a b : Ex) : Ex := fun env => bnd (t env) fun x => if x = true then a env else b env
theorem se_one {op : BoolOp} (h : SE C κ a ma) : SE C κ (.BoolOp op [a] pos) ma := pe_one h
theorem te_bind {σ : L2.St} {H : Hp} {Q R : VK} {u : D → Ex} (h : TEo C κ (fun env => bnd (ma env) fun x => u x env) σ H Q) (q : ∀ (W : Wd) (st : Store) d x, C.ok W st → Bor C.X.K C.X.mg W d x → TEo C κ (u d) σ W.H Q → R x W.H) : TEo C κa ma σ H R := by
  obtain ⟨env, W, st, e, SR1, o⟩ := h
  refine ⟨env, W, st, e, SR1, (Out.bnd o).imp fun d st' o' v W' e' k' r' => ?_⟩
  exact q W' st' d v k' r'.bor ⟨env, W', st', rfl, SR1.up e' k', (o'.up e').imp fun d st2 hq z W2 e2 k2 r2 => hq z W2 (e'.trans e2) k2 (r2.down e')⟩
theorem te_ret {σ : L2.St} {H : Hp} {Q : VK} {d : D} {v : V} (h : TEo C .froz (fun _ => ret d) σ H Q) (r : ∀ W : Wd, C.rp W d v) : Q v H := by
  obtain ⟨env, W, st, e, R, o⟩ := h
  subst e
  exact (show (∀ v W', Ext W W' → C.ok W' st → C.rk .froz W W' d v → Q v W'.H) from o) v W (.refl W) R.ok (r W)
theorem se_and (ha : SE C κa a ma) (hb : SE C .froz (.BoolOp .And (b :: rest) pos) mb) : SE C .froz (.BoolOp .And (a :: b :: rest) pos) (eAnd ma mb) :=
  PE.imp (pe_and ha hb) fun σ H Q h => te_bind h fun W st d x k br h1 => by
    cases d with
    | bl i =>
      have := br.bl
      subst this
      refine ⟨i, rfl, ?_⟩
      cases i with
      | true => rw [if_pos rfl]; exact h1
      | false => rw [if_neg Bool.false_ne_true]; exact te_ret h1 fun _ => by simp [Rp]
    | _ => exact (let ⟨_, _, _, _, _, o⟩ := h1; False.elim o)
theorem se_or (ha : SE C κa a ma) (hb : SE C .froz (.BoolOp .Or (b :: rest) pos) mb) : SE C .froz (.BoolOp .Or (a :: b :: rest) pos) (eOr ma mb) :=
  PE.imp (pe_or ha hb) fun σ H Q h => te_bind h fun W st d x k br h1 => by
    cases d with
    | bl i =>
      have := br.bl
      subst this
      refine ⟨i, rfl, ?_⟩
      cases i with
      | true => rw [if_pos rfl]; exact te_ret h1 fun _ => by simp [Rp]
      | false => rw [if_neg Bool.false_ne_true]; exact h1
    | _ => exact (let ⟨_, _, _, _, _, o⟩ := h1; False.elim o)
theorem se_not (ha : SE C κa a ma) : SE C .froz (.UnaryOp .Not a pos) (eNot ma) :=
  PE.imp (pe_not ha) fun σ H Q h => te_bind (u := fun d _ => notD d) h fun W st d x k br h1 => by
    cases d with
    | bl i =>
      have := br.bl
      subst this
      exact ⟨i, rfl, te_ret h1 fun _ => by simp [Rp]⟩
    | _ => exact (let ⟨_, _, _, _, _, o⟩ := h1; False.elim o)
theorem se_if (ht : ST C c ta) (ha : SE C κ a ma) (hb : SE C κ b mb) : SE C κ (.IfExp c a b pos) (eIf ta ma mb) :=
  PE.imp (pe_ifExp ht ha hb) fun σ H Q ⟨env, W, st, e, R, o⟩ => by
    refine ⟨env, W, st, e, R, (Out.bnd o).imp fun x st' o' W' e' k' => ?_⟩
    by_cases z : x = true
    · rw [if_pos z] at o' ⊢
      exact ⟨env, W', st', rfl, R.up e' k', (o'.up e').imp fun d st2 hq v W2 e2 k2 r2 => hq v W2 (e'.trans e2) k2 (r2.down e')⟩
    · rw [if_neg z] at o' ⊢
      exact ⟨env, W', st', rfl, R.up e' k', (o'.up e').imp fun d st2 hq v W2 e2 k2 r2 => hq v W2 (e'.trans e2) k2 (r2.down e')⟩
@[simp] def negD : D → M D
  | .int i => ret (.int (-i))
  | _ => halt
@[simp] def eNeg (a : Ex) : Ex := fun env => bnd (a env) negD
theorem se_neg (ha : SE C κa a ma) : SE C .froz (.UnaryOp .USub a pos) (eNeg ma) :=
  PE.imp (pe_un un_neg ha) fun σ H Q h => te_bind (u := fun d _ => negD d) h fun W st d x k br h1 => by
    cases d with
    | int i =>
      have := br.int
      subst this
      exact ⟨i, rfl, te_ret h1 fun _ => by simp [Rp]⟩
    | _ => exact (let ⟨_, _, _, _, _, o⟩ := h1; False.elim o)
end

/-! ### comparisons -/
/-- == of data -/
def D.eqv (a b : D) : Bool := PyData.eqv a.py b.py
def eqD (a b : D) : Option D := match shp 60 a && shp 60 b with
  | true => some (.bl (D.eqv a b))
  | false => none
def neD (a b : D) : Option D := match shp 60 a && shp 60 b with
  | true => some (.bl (!D.eqv a b))
  | false => none
def D.lt (a b : D) : Bool := PySem.W.dataLt a.py b.py
def ordOk (a b : D) : Bool := shp 60 a && shp 60 b && PySem.W.alike a.py b.py && !(match a with | .non => true | _ => false) && !(match b with | .non => true | _ => false)
def ltD (a b : D) : Option D := match ordOk a b with | true => some (.bl (D.lt a b)) | false => none
def gtD (a b : D) : Option D := match ordOk a b with | true => some (.bl (D.lt b a)) | false => none
def leD (a b : D) : Option D := match ordOk a b with | true => some (.bl (!D.lt b a)) | false => none
def geD (a b : D) : Option D := match ordOk a b with | true => some (.bl (!D.lt a b)) | false => none
def D.neg : D → D
  | .bl i => .bl (!i)
  | d => d
/-- is -/
def isD (a b : D) : Option D := match a, b with
  | .non, .non => some (.bl true)
  | .bl _, .non => some (.bl false) | .int _, .non => some (.bl false) | .str _, .non => some (.bl false) | .tup _, .non => some (.bl false) | .lst _, .non => some (.bl false) | .dct _, .non => some (.bl false)
  | .non, .bl _ => some (.bl false) | .int _, .bl _ => some (.bl false) | .str _, .bl _ => some (.bl false) | .tup _, .bl _ => some (.bl false) | .lst _, .bl _ => some (.bl false) | .dct _, .bl _ => some (.bl false)
  | .bl i, .bl j => some (.bl (decide (i = j)))
  | _, _ => none
def isntD (a b : D) : Option D := (isD a b).map D.neg
/-- in -/
def inS (x y : Str) : Bool := !(Builtin.Str.occurrences y x 0 y.length 1).isEmpty
def inD (x c : D) : Option D := match c with
  | .lst ys => (match shp 60 x && shpL 60 ys with | true => some (.bl (ys.any fun y => D.eqv y x)) | false => none)
  | .tup ys => (match shp 60 x && shpL 60 ys with | true => some (.bl (ys.any fun y => D.eqv y x)) | false => none)
  | .str y => (match x with | .str z => some (.bl (inS z y)) | _ => none)
  | _ => none
def ninD (x c : D) : Option D := (inD x c).map D.neg
section
variable {K : PySem.W.Frag} {mg : Str → Option Value} {W : Wd} {st : Store}
theorem Bor.rp {d : D} {v : V} (k : W.Ok K mg st) (h : Bor K mg W d v) : ∃ G' : Hp, (∀ a o, G' a = some o → W.H a = some o) ∧ Rp K mg W.as G' d v := by
  rcases h with h | ⟨a, ev, na, t⟩
  · exact ⟨W.G, k.sub, h⟩
  · refine ⟨fun b => if b = a then W.H a else W.G b, fun b o e => ?_, ?_⟩
    · have e' : (if b = a then W.H a else W.G b) = some o := e
      by_cases q : b = a
      · rw [if_pos q] at e'; rw [q]; exact e'
      · rw [if_neg q] at e'; exact k.sub _ _ e'
    · have up : ∀ b o, W.G b = some o → (fun b => if b = a then W.H a else W.G b) b = some o := fun b o e => by
        show (if b = a then W.H a else W.G b) = some o
        by_cases q : b = a
        · rw [if_pos q, ← q]; exact k.sub _ _ e
        · rw [if_neg q]; exact e
      have at_ : (fun b => if b = a then W.H a else W.G b) a = W.H a := by show (if a = a then W.H a else W.G a) = W.H a; rw [if_pos rfl]
      subst ev
      cases d with
      | lst ds =>
        obtain ⟨vs, h1, h2⟩ := t
        simp only [Rp]
        exact ⟨a, vs, rfl, by rw [if_pos rfl]; exact h1, RpL.up (fun _ _ h => h) up ds vs h2⟩
      | dct ds =>
        simp only [Rp]
        rcases t with ⟨kvs, h1, h2⟩ | ⟨kvs, h1, h2⟩
        · exact ⟨a, rfl, .inl ⟨kvs, by rw [if_pos rfl]; exact h1, RpK.up (fun _ _ h => h) up ds kvs h2⟩⟩
        · exact ⟨a, rfl, .inr ⟨kvs, by rw [if_pos rfl]; exact h1, RpT.up (fun _ _ h => h) up ds kvs h2⟩⟩
      | _ => exact False.elim t
end
section
variable {C : Cn} {pins : List (Addr × Obj)} {σ : L2.St} {s : Shared} {W : Wd} {st : Store}
theorem Bor.reads {n : Nat} {d : D} {v : V} {u : Value} (I : Inv C.X pins σ W.H s) (hs : Sysm C.X.K) (k : C.ok W st) (h : Bor C.X.K C.X.mg W d v) (r : RelV v u) (hd : dat n d = true) : ∃ l, Reads s.heap u d.py l ∧ sysModules ∉ l := by
  obtain ⟨G', g, h'⟩ := Bor.rp k h
  exact Rp.reads I hs g n d v u hd h' r
theorem room60 {A : Around} {n m : Nat} (hu : A.units + 64 < cLine) (h : n ≤ 61) : A.units + min n m < cLine := by omega
theorem sop_data {f : Value → Value → Sem Value} {g : D → D → Option D} {c : D → D → Bool} {b : D → D → Bool} (hs : Sysm C.X.K)
    (hg : ∀ x y, g x y = match c x y with | true => some (.bl (b x y)) | false => none)
    (hc : ∀ x y, c x y = true → shp 60 x = true ∧ shp 60 y = true)
    (rule : ∀ (s : Shared) (x y : D) (u v : Value) (l l' : List Addr) (Q : Value → Shared → Prop), c x y = true → Reads s.heap u x.py l → Reads s.heap v y.py l' → Q (.bool (b x y)) s → wpAny (model C.X.prog C.X.w) C.X.A (f u v) Q C.X.xe s) :
    SOp C .froz f (pur g) := by
  intro pins s σ W st d1 d2 x y u v Q I k b1 b2 ru rv o
  have o' : Out C σ W (lift (g d1 d2) st) _ := o
  rw [hg] at o'
  cases q : c d1 d2 with
  | true =>
    rw [q] at o'
    obtain ⟨h1, h2⟩ := hc _ _ q
    obtain ⟨l1, r1, _⟩ := b1.reads I hs k ru (dat_of_shp _ _ h1)
    obtain ⟨l2, r2, _⟩ := b2.reads I hs k rv (dat_of_shp _ _ h2)
    exact rule s d1 d2 u v l1 l2 _ q r1 r2 ⟨.bl _, W.H, I, rfl, o' (.bl (b d1 d2)) W (.refl W) k rk_bl⟩
  | false => rw [q] at o'; exact False.elim o'
theorem dep60 {d : D} (h : shp 60 d = true) : d.py.depth ≤ 60 := depth_of_dat 60 d (dat_of_shp 60 d h)
theorem and2 {a b : Bool} (h : (a && b) = true) : a = true ∧ b = true := Bool.and_eq_true_iff.mp h
theorem sop_eq (hs : Sysm C.X.K) (hu : C.X.A.units + 64 < cLine) : SOp C .froz (compareOp .Eq) (pur eqD) :=
  sop_data hs (c := fun x y => shp 60 x && shp 60 y) (b := D.eqv) (fun _ _ => rfl) (fun _ _ h => and2 h) fun s x y u v l l' Q h r1 r2 hq =>
    SeqAt.eq_plain r1 r2 (plain_of_shp _ _ (and2 h).1) (plain_of_shp _ _ (and2 h).2) (by have := dep60 (and2 h).1; omega) hq
theorem sop_ne (hs : Sysm C.X.K) (hu : C.X.A.units + 64 < cLine) : SOp C .froz (compareOp .NotEq) (pur neD) :=
  sop_data hs (c := fun x y => shp 60 x && shp 60 y) (b := fun x y => !D.eqv x y) (fun _ _ => rfl) (fun _ _ h => and2 h) fun s x y u v l l' Q h r1 r2 hq =>
    SeqAt.ne_plain r1 r2 (plain_of_shp _ _ (and2 h).1) (plain_of_shp _ _ (and2 h).2) (by have := dep60 (and2 h).1; omega) hq
theorem py_non {a : D} (h : (!(match a with | .non => true | _ => false)) = true) (n : 60 = 60) (hs : shp 60 a = true) : a.py ≠ .none := by
  cases a with
  | non => cases h
  | obj i => simp [shp] at hs
  | glo i => simp [shp] at hs
  | raw i => simp [shp] at hs
  | scr i => simp [shp] at hs
  | _ => simp only [D.py]; intro z; cases z
theorem ordOk_is {a b : D} (h : ordOk a b = true) : shp 60 a = true ∧ shp 60 b = true ∧ PySem.W.alike a.py b.py = true ∧ a.py ≠ .none := by
  unfold ordOk at h
  simp only [Bool.and_eq_true] at h
  obtain ⟨⟨⟨⟨h1, h2⟩, h3⟩, h4⟩, h5⟩ := h
  exact ⟨h1, h2, h3, py_non h4 rfl h1⟩
theorem sop_lt (hs : Sysm C.X.K) (hu : C.X.A.units + 64 < cLine) : SOp C .froz (compareOp .Lt) (pur ltD) :=
  sop_data hs (c := ordOk) (b := D.lt) (fun _ _ => rfl) (fun _ _ h => ⟨(ordOk_is h).1, (ordOk_is h).2.1⟩) fun s x y u v l l' Q h r1 r2 hq => by
    obtain ⟨h1, h2, h3, h4⟩ := ordOk_is h
    exact PySem.W.lt_data r1 r2 h3 h4 (by have := dep60 h1; omega) hq
theorem sop_ge (hs : Sysm C.X.K) (hu : C.X.A.units + 64 < cLine) : SOp C .froz (compareOp .GtE) (pur geD) :=
  sop_data hs (c := ordOk) (b := fun x y => !D.lt x y) (fun _ _ => rfl) (fun _ _ h => ⟨(ordOk_is h).1, (ordOk_is h).2.1⟩) fun s x y u v l l' Q h r1 r2 hq => by
    obtain ⟨h1, h2, h3, h4⟩ := ordOk_is h
    exact PySem.W.ge_data r1 r2 h3 h4 (by have := dep60 h1; omega) hq
theorem sop_gt (hs : Sysm C.X.K) (hu : C.X.A.units + 64 < cLine) : SOp C .froz (compareOp .Gt) (pur gtD) :=
  sop_data hs (c := ordOk) (b := fun x y => D.lt y x) (fun _ _ => rfl) (fun _ _ h => ⟨(ordOk_is h).1, (ordOk_is h).2.1⟩) fun s x y u v l l' Q h r1 r2 hq => by
    obtain ⟨h1, h2, h3, h4⟩ := ordOk_is h
    exact PySem.W.gt_data r1 r2 h3 h4 (by have := dep60 h1; omega) hq
theorem sop_le (hs : Sysm C.X.K) (hu : C.X.A.units + 64 < cLine) : SOp C .froz (compareOp .LtE) (pur leD) :=
  sop_data hs (c := ordOk) (b := fun x y => !D.lt y x) (fun _ _ => rfl) (fun _ _ h => ⟨(ordOk_is h).1, (ordOk_is h).2.1⟩) fun s x y u v l l' Q h r1 r2 hq => by
    obtain ⟨h1, h2, h3, h4⟩ := ordOk_is h
    exact PySem.W.le_data r1 r2 h3 h4 (by have := dep60 h1; omega) hq
theorem any_py (x : D) : ∀ ys : List D, ((pyL ys).any fun y => PyData.eqv y x.py) = ys.any fun y => D.eqv y x
  | [] => rfl
  | y :: ys => by simp [pyL, List.any_cons, any_py x ys, D.eqv]
theorem sop_in (hs : Sysm C.X.K) (hu : C.X.A.units + 64 < cLine) : SOp C .froz (compareOp .In) (pur inD) := by
  intro pins s σ W st d1 d2 x y u v Q I k b1 b2 ru rv o
  have fin : ∀ {b : Bool}, (∀ v W', Ext W W' → C.ok W' st → C.rk .froz W W' (.bl b) v → Q v W'.H) → EP C.X pins σ Q (.bool b) s := fun h => ⟨.bl _, W.H, I, rfl, h (.bl _) W (.refl W) k rk_bl⟩
  cases d2 with
  | lst ys =>
    have o' : Out C σ W (lift (match shp 60 d1 && shpL 60 ys with | true => some (D.bl (ys.any fun y => D.eqv y d1)) | false => none) st) _ := o
    cases q : shp 60 d1 && shpL 60 ys with
    | false => rw [q] at o'; exact False.elim o'
    | true =>
      rw [q] at o'
      obtain ⟨h1, h2⟩ := and2 q
      have h3 : shp 61 (.lst ys) = true := by simp only [shp]; exact h2
      obtain ⟨l1, r1, _⟩ := b1.reads I hs k ru (dat_of_shp _ _ h1)
      obtain ⟨l2, r2, _⟩ := b2.reads I hs k rv (dat_of_shp _ _ h3)
      refine SeqAt.in_list_data (by simpa only [D.py] using r2) r1 (plainAll_of_shp _ _ h2) (plain_of_shp _ _ h1) (by have := dep60 h1; omega) ?_
      rw [any_py]
      exact fin o'
  | tup ys =>
    have o' : Out C σ W (lift (match shp 60 d1 && shpL 60 ys with | true => some (D.bl (ys.any fun y => D.eqv y d1)) | false => none) st) _ := o
    cases q : shp 60 d1 && shpL 60 ys with
    | false => rw [q] at o'; exact False.elim o'
    | true =>
      rw [q] at o'
      obtain ⟨h1, h2⟩ := and2 q
      have h3 : shp 61 (.tup ys) = true := by simp only [shp]; exact h2
      obtain ⟨l1, r1, _⟩ := b1.reads I hs k ru (dat_of_shp _ _ h1)
      obtain ⟨l2, r2, _⟩ := b2.reads I hs k rv (dat_of_shp _ _ h3)
      refine SeqAt.in_tuple_data (by simpa only [D.py] using r2) r1 (plainAll_of_shp _ _ h2) (plain_of_shp _ _ h1) (by have := dep60 h1; omega) ?_
      rw [any_py]
      exact fin o'
  | str z =>
    cases d1 with
    | str w =>
      have e1 := b1.str
      have e2 := b2.str
      subst e1 e2
      exact op_in_str pins s σ W.H _ _ u v Q I ru rv ⟨w, z, rfl, rfl, Out.get o (.bl (inS w z)) W (.refl W) k rk_bl⟩
    | _ => exact (show False from o).elim
  | _ => exact (show False from o).elim
theorem sop_nin (hs : Sysm C.X.K) (hu : C.X.A.units + 64 < cLine) : SOp C .froz (compareOp .NotIn) (pur ninD) := by
  intro pins s σ W st d1 d2 x y u v Q I k b1 b2 ru rv o
  have fin : ∀ {b : Bool}, (∀ v W', Ext W W' → C.ok W' st → C.rk .froz W W' (.bl b) v → Q v W'.H) → EP C.X pins σ Q (.bool b) s := fun h => ⟨.bl _, W.H, I, rfl, h (.bl _) W (.refl W) k rk_bl⟩
  cases d2 with
  | lst ys =>
    have o' : Out C σ W (lift ((match shp 60 d1 && shpL 60 ys with | true => some (D.bl (ys.any fun y => D.eqv y d1)) | false => none).map D.neg) st) _ := o
    cases q : shp 60 d1 && shpL 60 ys with
    | false => rw [q] at o'; exact False.elim o'
    | true =>
      rw [q] at o'
      obtain ⟨h1, h2⟩ := and2 q
      have h3 : shp 61 (.lst ys) = true := by simp only [shp]; exact h2
      obtain ⟨l1, r1, _⟩ := b1.reads I hs k ru (dat_of_shp _ _ h1)
      obtain ⟨l2, r2, _⟩ := b2.reads I hs k rv (dat_of_shp _ _ h3)
      refine SeqAt.notIn_list_data (by simpa only [D.py] using r2) r1 (plainAll_of_shp _ _ h2) (plain_of_shp _ _ h1) (by have := dep60 h1; omega) ?_
      rw [any_py]
      exact fin o'
  | tup ys =>
    have o' : Out C σ W (lift ((match shp 60 d1 && shpL 60 ys with | true => some (D.bl (ys.any fun y => D.eqv y d1)) | false => none).map D.neg) st) _ := o
    cases q : shp 60 d1 && shpL 60 ys with
    | false => rw [q] at o'; exact False.elim o'
    | true =>
      rw [q] at o'
      obtain ⟨h1, h2⟩ := and2 q
      have h3 : shp 61 (.tup ys) = true := by simp only [shp]; exact h2
      obtain ⟨l1, r1, _⟩ := b1.reads I hs k ru (dat_of_shp _ _ h1)
      obtain ⟨l2, r2, _⟩ := b2.reads I hs k rv (dat_of_shp _ _ h3)
      refine SeqAt.notIn_tuple_data (by simpa only [D.py] using r2) r1 (plainAll_of_shp _ _ h2) (plain_of_shp _ _ h1) (by have := dep60 h1; omega) ?_
      rw [any_py]
      exact fin o'
  | str z =>
    cases d1 with
    | str w =>
      have e1 := b1.str
      have e2 := b2.str
      subst e1 e2
      exact op_notin_str pins s σ W.H _ _ u v Q I ru rv ⟨w, z, rfl, rfl, Out.get o (.bl (!inS w z)) W (.refl W) k rk_bl⟩
    | _ => exact (show False from o).elim
  | _ => exact (show False from o).elim
end
end Sm


set_option Elab.async false
set_option linter.all false
set_option maxRecDepth 100000
set_option maxHeartbeats 1000000
/-! Sm5: statements, targets, loops, comprehensions. -/
namespace Sm
open PySem PySem.Spec L2

/-! ### slots -/
section
variable {C : Cn} {env : En} {W W' : Wd} {st st' : Store} {σ : L2.St} {i : Nat} {d : D} {v : V}
theorem put_same {e : En} {b : Bool} : e.put i b d i = some (b, d) := if_pos rfl
theorem put_ne {e : En} {b : Bool} {j : Nat} (h : j ≠ i) : e.put i b d j = e j := if_neg h
theorem SR.put (R : SR C env W st σ) (hi : i < C.X.N.length) (r : C.rp W d v) : SR C (env.put i false d) W st (σ.set i (some v)) := by
  have hl : i < σ.length := by rw [R.len]; exact hi
  refine ⟨R.ext, by rw [List.length_set, R.len], R.ok, fun j b e h => ?_, fun j k x y a hjk hj hk h1 h2 => ?_⟩
  · by_cases q : j = i
    · subst q
      rw [put_same] at h
      obtain ⟨rfl, rfl⟩ := Prod.mk.inj (Option.some.inj h)
      exact ⟨v, by rw [List.getElem?_set_self hl], by rw [if_neg Bool.false_ne_true]; exact r⟩
    · rw [put_ne q] at h
      rw [List.getElem?_set_ne (Ne.symm q)]
      exact R.slot j b e h
  · have n : ∀ {j x}, env.put i false d j = some (true, x) → j ≠ i ∧ env j = some (true, x) := fun {j x} h => by
      by_cases q : j = i
      · subst q; rw [put_same] at h; cases h
      · rw [put_ne q] at h; exact ⟨q, h⟩
    obtain ⟨n1, hj⟩ := n hj
    obtain ⟨n2, hk⟩ := n hk
    rw [List.getElem?_set_ne (Ne.symm n1)] at h1
    rw [List.getElem?_set_ne (Ne.symm n2)] at h2
    exact R.dis j k x y a hjk hj hk h1 h2
theorem SR.putOwn (R : SR C env W st σ) (e : Ext W W') (k : C.ok W' st') (hi : i < C.X.N.length) (r : C.rk .fresh W W' d v) : SR C (env.put i true d) W' st' (σ.set i (some v)) := by
  have hl : i < σ.length := by rw [R.len]; exact hi
  have R' := R.up e k
  refine ⟨R'.ext, by rw [List.length_set, R.len], R'.ok, fun j b x h => ?_, fun j m x y a hjk hj hk h1 h2 => ?_⟩
  · by_cases q : j = i
    · subst q
      rw [put_same] at h
      obtain ⟨rfl, rfl⟩ := Prod.mk.inj (Option.some.inj h)
      exact ⟨v, by rw [List.getElem?_set_self hl], by rw [if_pos rfl]; exact RK.down (κ := .fresh) R.ext r⟩
    · rw [put_ne q] at h
      rw [List.getElem?_set_ne (Ne.symm q)]
      exact R'.slot j b x h
  · obtain ⟨a0, ev, n0, _⟩ := r
    have other : ∀ {j x}, j ≠ i → env j = some (true, x) → σ[j]? = some (some (.ref a0)) → False := fun {j x} n h q => by
      obtain ⟨w, h3, h4⟩ := R.slot j true x h
      rw [if_pos rfl] at h4
      obtain ⟨a', ev', _, _, _, t⟩ := h4
      rw [q] at h3
      have := Option.some.inj (Option.some.inj h3)
      rw [ev'] at this
      cases this
      exact t.there n0
    have out : ∀ {j : Nat}, j ≠ i → (σ.set i (some v))[j]? = σ[j]? := fun n => List.getElem?_set_ne (Ne.symm n)
    have own : (σ.set i (some v))[i]? = some (some v) := List.getElem?_set_self hl
    by_cases q1 : j = i
    · by_cases q2 : m = i
      · exact hjk (q1.trans q2.symm)
      · subst q1
        rw [put_ne q2] at hk
        rw [own, ev] at h1
        have := Option.some.inj (Option.some.inj h1)
        cases this
        rw [out q2] at h2
        exact other q2 hk h2
    · by_cases q2 : m = i
      · subst q2
        rw [put_ne q1] at hj
        rw [own, ev] at h2
        have := Option.some.inj (Option.some.inj h2)
        cases this
        rw [out q1] at h1
        exact other q1 hj h1
      · rw [put_ne q1] at hj
        rw [put_ne q2] at hk
        rw [out q1] at h1
        rw [out q2] at h2
        exact R.dis j m x y a hjk hj hk h1 h2
/-- what the slot i owns is frozen -/
def En.frz (e : En) (i : Nat) : En := match e i with
  | some (true, d) => e.put i false d
  | _ => e
theorem SR.frz (R : SR C env W st σ) : ∃ W', W'.H = W.H ∧ Lat W W' ∧ SR C (env.frz i) W' st σ := by
  unfold En.frz
  cases q : env i with
  | none => exact ⟨W, rfl, .refl W, R⟩
  | some p =>
    obtain ⟨b, d⟩ := p
    cases b with
    | false => exact ⟨W, rfl, .refl W, R⟩
    | true =>
      obtain ⟨v, h1, h2⟩ := R.slot i true d q
      rw [if_pos rfl] at h2
      obtain ⟨a, ev, n0, ng, na, t⟩ := h2
      subst ev
      refine ⟨W.frz a, rfl, frz_lat ng, frz_ext R.ext n0 ng, R.len, frz_ok R.ok ng na t.nt, fun j b x h => ?_, fun j m x y c hjk hj hk g1 g2 => ?_⟩
      · show ∃ v, σ[j]? = some (some v) ∧ _
        by_cases z : j = i
        · subst z
          have h' : env.put j false d j = some (b, x) := h
          rw [put_same] at h'
          obtain ⟨rfl, rfl⟩ := Prod.mk.inj (Option.some.inj h')
          exact ⟨.ref a, h1, by rw [if_neg Bool.false_ne_true]; exact frz_rp ng t⟩
        · have h' : env.put i false d j = some (b, x) := h
          rw [put_ne z] at h'
          obtain ⟨w, h3, h4⟩ := R.slot j b x h'
          refine ⟨w, h3, ?_⟩
          cases b with
          | false => rw [if_neg Bool.false_ne_true] at h4 ⊢; exact h4.lat (frz_lat ng)
          | true =>
            rw [if_pos rfl] at h4 ⊢
            obtain ⟨a', ev', m0, mg, ma, t'⟩ := h4
            subst ev'
            have hne : a' ≠ a := fun e => R.dis j i x d a z h' q (by rw [h3, e]) h1
            refine ⟨a', rfl, m0, ?_, ma, ?_⟩
            · show (if a' = a then W.H a else W.G a') = none
              rw [if_neg hne]; exact mg
            · cases x with
              | lst ds =>
                obtain ⟨vs, e1, e2⟩ := t'
                exact ⟨vs, e1, RpL.up (fun _ _ h => h) (frz_g ng) ds vs e2⟩
              | dct ds =>
                rcases t' with ⟨kvs, e1, e2⟩ | ⟨kvs, e1, e2⟩
                · exact .inl ⟨kvs, e1, RpK.up (fun _ _ h => h) (frz_g ng) ds kvs e2⟩
                · exact .inr ⟨kvs, e1, RpT.up (fun _ _ h => h) (frz_g ng) ds kvs e2⟩
              | _ => exact False.elim t'
      · have n : ∀ {j x}, env.put i false d j = some (true, x) → env j = some (true, x) := fun {j x} h => by
          by_cases z : j = i
          · subst z; rw [put_same] at h; cases h
          · rw [put_ne z] at h; exact h
        exact R.dis j m x y c hjk (n hj) (n hk) g1 g2
end

/-! ### statements -/
def kFl (C : Cn) (κ : Kd) (D : Ends) (W : Wd) : Fl → Store → Prop
  | .nx env', st' => ∀ σ' W', SR C env' W' st' σ' → Lat W W' → D.nx σ' W'.H
  | .rt d, st' => ∀ v W', Ext C.W0 W' → C.ok W' st' → C.rk κ C.W0 W' d v → D.rt v W'.H
def TSo (C : Cn) (κ : Kd) (m : Sx) : TS := fun D σ H => ∃ env W st, W.H = H ∧ SR C env W st σ ∧ OutS C (m env st) (kFl C κ D W)
def SS (C : Cn) (κ : Kd) (s : Stmt) (m : Sx) : Prop := PS C.X s (TSo C κ m)
def SSs (C : Cn) (κ : Kd) (ss : List Stmt) (m : Sx) : Prop := PSs C.X ss (TSo C κ m)
theorem PS.imp {X : Cx} {e : Stmt} {t u : TS} (h : PS X e t) (q : ∀ D σ H, u D σ H → t D σ H) : PS X e u := ⟨fun pins s σ H Q I z => h.run pins s σ H Q I (q Q σ H z)⟩
theorem PSs.imp {X : Cx} {e : List Stmt} {t u : TS} (h : PSs X e t) (q : ∀ D σ H, u D σ H → t D σ H) : PSs X e u := ⟨fun pins s σ H Q I z => h.run pins s σ H Q I (q Q σ H z)⟩
theorem PG.imp {X : Cx} {e : Expr} {t u : TG} (h : PG X e t) (q : ∀ v σ H Q, u v σ H Q → t v σ H Q) : PG X e u := ⟨fun pins s σ H v w Q I r z => h.run pins s σ H v w Q I r (q v σ H Q z)⟩
theorem PGs.imp {X : Cx} {e : List Expr} {t u : TGs} (h : PGs X e t) (q : ∀ v σ H Q, u v σ H Q → t v σ H Q) : PGs X e u := ⟨fun pins s σ H v w Q I r z => h.run pins s σ H v w Q I r (q v σ H Q z)⟩
theorem PI.imp {X : Cx} {tg e : Expr} {t u : TI} (h : PI X tg e t) (q : ∀ σ H Q, u σ H Q → t σ H Q) : PI X tg e u := ⟨fun pins s σ H Q I z => h.run pins s σ H Q I (q σ H Q z)⟩
theorem PTs.imp {X : Cx} {e : List Expr} {t u : TT} (h : PTs X e t) (q : ∀ σ H Q, u σ H Q → t σ H Q) : PTs X e u := ⟨fun pins s σ H Q I z => h.run pins s σ H Q I (q σ H Q z)⟩
@[simp] def sNil : Sx := fun env => ret (.nx env)
@[simp] def sSeq (a b : Sx) : Sx := fun env => bnd (a env) fun f => match f with
  | .nx e => b e
  | .rt d => ret (.rt d)
@[simp] def sSet (i : Nat) (m : Ex) : Sx := fun env => bnd (m env) fun d => ret (.nx (env.put i false d))
@[simp] def sOwn (i : Nat) (m : Ex) : Sx := fun env => bnd (m env) fun d => ret (.nx (env.put i true d))
@[simp] def sRet (m : Ex) : Sx := fun env => bnd (m env) fun d => ret (.rt d)
@[simp] def sDrop (m : Ex) : Sx := fun env => bnd (m env) fun _ => ret (.nx env)
@[simp] def sIf (t : Tx) (a b : Sx) : Sx := fun env => bnd (t env) fun c => if c = true then a env else b env
def sFrz (i : Nat) (m : Sx) : Sx := fun env => m (env.frz i)
@[simp] def sNever : Sx := fun _ => halt
section
variable {C : Cn} {κ κe : Kd} {s : Stmt} {ss : List Stmt} {a b m : Sx} {e t : Expr} {me : Ex} {mt : Tx} {pos : Pos} {De : Ends} {W W1 : Wd} {f : Fl} {st : Store} {σ : L2.St} {H : Hp}
theorem kFl.lat (h : kFl C κ De W f st) (l : Lat W W1) : kFl C κ De W1 f st := by
  cases f with
  | nx e => exact fun σ' W' R' l' => h σ' W' R' (l.trans l')
  | rt d => exact h
theorem ss_nil : SSs C κ [] sNil := PSs.imp pss_nil fun D σ H ⟨env, W, st, e, R, o⟩ => by
  subst e
  exact (show kFl C κ D W (.nx env) st from o) σ W R (.refl W)
theorem seq_go (h : TSo C κ (sSeq a b) De σ H) : TSo C κ a { De with nx := TSo C κ b De } σ H := by
  obtain ⟨env, W, st, e, R, o⟩ := h
  refine ⟨env, W, st, e, R, (OutS.bnd o).imp fun f st' o' => ?_⟩
  cases f with
  | nx e' => exact fun σ' W' R' l => ⟨e', W', st', rfl, R', o'.imp fun g st2 h => h.lat l⟩
  | rt d => exact fun v W' x k r => (show kFl C κ De W (.rt d) st' from o') v W' x k r
theorem ss_cons (h1 : SS C κ s a) (h2 : SSs C κ ss b) : SSs C κ (s :: ss) (sSeq a b) := PSs.imp (pss_cons h1 h2) fun D σ H h => seq_go h
theorem ss_one (h1 : SS C κ s a) : SSs C κ [s] a := pss_one h1
theorem ss_pass : SS C κ (.Pass pos) sNil := PS.imp ps_pass fun D σ H ⟨env, W, st, e, R, o⟩ => by
  subst e
  exact (show kFl C κ D W (.nx env) st from o) σ W R (.refl W)
theorem ss_never : SSs C κ ss sNever := PSs.imp pss_never fun D σ H ⟨_, _, _, _, _, o⟩ => o
theorem ss_never1 : SS C κ s sNever := PS.imp ps_never fun D σ H ⟨_, _, _, _, _, o⟩ => o
/-- an expression first -/
theorem te_of {Q : V → Hp → Prop} {k : D → M Fl} {env : En} (R : SR C env W st σ) (o : OutS C (bnd (me env) k st) (kFl C κ De W))
    (h : ∀ d st' v W', Ext W W' → C.ok W' st' → C.rk κe W W' d v → OutS C (k d st') (kFl C κ De W) → Q v W'.H) : TEo C κe me σ W.H Q :=
  ⟨env, W, st, rfl, R, ((OutS.bnd o).out R.ext).imp fun d st' o' v W' e' k' r' => h d st' v W' e' k' r' o'⟩
theorem ss_ret (he : SE C κe e me) (hk : ∀ {W W' : Wd} {d : D} {v : V}, Ext C.W0 W → C.rk κe W W' d v → C.rk κ C.W0 W' d v) : SS C κ (.Return (some e) pos) (sRet me) :=
  PS.imp (ps_ret he) fun D σ H ⟨env, W, st, e, R, o⟩ => by
    subst e
    exact te_of R o fun d st' v W' e' k' r' o' => (show kFl C κ D W (.rt d) st' from o') v W' (R.ext.trans e') k' (hk R.ext r')
theorem ss_retF (he : SE C .froz e me) : SS C .froz (.Return (some e) pos) (sRet me) := ss_ret he fun _ r => r
theorem ss_retN (he : SE C .fresh e me) : SS C .fresh (.Return (some e) pos) (sRet me) := ss_ret he fun e r => RK.down (κ := .fresh) e r
theorem ss_drop (he : SE C κe e me) (hs : swapsWith e none pos.line C.X.env = pure false := by rfl) : SS C κ (.Expr e pos) (sDrop me) :=
  PS.imp (ps_expr he hs) fun D σ H ⟨env, W, st, e, R, o⟩ => by
    subst e
    exact te_of (κe := κe) R o fun d st' v W' e' k' r' o' => (show kFl C κ D W (.nx env) st' from o') σ W' (R.up e' k') e'.lat
theorem ss_if (ht : ST C t mt) {as bs : List Stmt} (ha : SSs C κ as a) (hb : SSs C κ bs b) : SS C κ (.If t as bs pos) (sIf mt a b) :=
  PS.imp (ps_if ht ha hb) fun D σ H ⟨env, W, st, e, R, o⟩ => by
    subst e
    refine ⟨env, W, st, rfl, R, ((OutS.bnd o).out R.ext).imp fun c st' o' W' e' k' => ?_⟩
    by_cases z : c = true
    · rw [if_pos z] at o' ⊢
      exact ⟨env, W', st', rfl, R.up e' k', o'.imp fun g st2 h => h.lat e'.lat⟩
    · rw [if_neg z] at o' ⊢
      exact ⟨env, W', st', rfl, R.up e' k', o'.imp fun g st2 h => h.lat e'.lat⟩
theorem frz_go {i : Nat} (h : TSo C κ (sFrz i m) De σ H) : TSo C κ m De σ H := by
  obtain ⟨env, W, st, e, R, o⟩ := h
  obtain ⟨W', h1, l, R'⟩ := R.frz (i := i)
  exact ⟨env.frz i, W', st, h1.trans e, R', o.imp fun g st2 h => h.lat l⟩
theorem ss_frz {i : Nat} (h : SS C κ s m) : SS C κ s (sFrz i m) := PS.imp h fun D σ H => frz_go
theorem ss_frzs {i : Nat} (h : SSs C κ ss m) : SSs C κ ss (sFrz i m) := PSs.imp h fun D σ H => frz_go
/-- a plain local name -/
structure Nm (C : Cn) (i : Nat) (x : Str) : Prop where
  nod : C.X.N.Nodup
  at_ : C.X.N[i]? = some x
  loc : Loc C.X.env.scope x
  fn : C.X.fn x = true ∨ C.X.env.scope.names.lookup x = some .local
theorem Nm.lt {i : Nat} {x : Str} (n : Nm C i x) : i < C.X.N.length := by
  by_cases q : i < C.X.N.length
  · exact q
  · have := n.at_
    rw [List.getElem?_eq_none (by omega)] at this
    cases this
theorem asg_go {i : Nat} {x : Str} (n : Nm C i x) (h : TSo C κ (sSet i me) De σ H) : tAsg (TEo C .froz me) (gName i) De σ H := by
  obtain ⟨env, W, st, e, R, o⟩ := h
  subst e
  exact te_of (κe := .froz) R o fun d st' v W' e' k' r' o' => (show kFl C κ De W (.nx (env.put i false d)) st' from o') _ W' ((R.up e' k').put n.lt r') e'.lat
theorem own_go {i : Nat} {x : Str} (n : Nm C i x) (h : TSo C κ (sOwn i me) De σ H) : tAsg (TEo C .fresh me) (gName i) De σ H := by
  obtain ⟨env, W, st, e, R, o⟩ := h
  subst e
  exact te_of (κe := .fresh) R o fun d st' v W' e' k' r' o' => (show kFl C κ De W (.nx (env.put i true d)) st' from o') _ W' (R.putOwn e' k' n.lt r') e'.lat
/-- a fresh value, frozen as it is stored -/
theorem frz_own {i : Nat} {x : Str} (n : Nm C i x) (h : TSo C κ (sSet i me) De σ H) : tAsg (TEo C .fresh me) (gName i) De σ H := by
  obtain ⟨env, W, st, e, R, o⟩ := h
  subst e
  refine te_of (κe := .fresh) R o fun d st' v W' e' k' r' o' => ?_
  obtain ⟨a, ev, n0, ng, na, t⟩ := r'
  subst ev
  exact (show kFl C κ De W (.nx (env.put i false d)) st' from o') _ (W'.frz a) ((R.up (frz_ext e' n0 ng) (frz_ok k' ng na t.nt)).put n.lt (frz_rp ng t)) (e'.lat.trans (frz_lat ng))
theorem ss_set {i : Nat} {x : Str} {pos' : Pos} (n : Nm C i x) (he : SE C .froz e me) (hs : swapsWith e (some (.Name x pos')) pos.line C.X.env = pure false := by rfl) : SS C κ (.Assign [.Name x pos'] e pos) (sSet i me) :=
  PS.imp (ps_set n.nod n.at_ n.loc he hs n.fn) fun D σ H => asg_go n
theorem ss_own {i : Nat} {x : Str} {pos' : Pos} (n : Nm C i x) (he : SE C .fresh e me) (hs : swapsWith e (some (.Name x pos')) pos.line C.X.env = pure false := by rfl) : SS C κ (.Assign [.Name x pos'] e pos) (sOwn i me) :=
  PS.imp (ps_set n.nod n.at_ n.loc he hs n.fn) fun D σ H => own_go n
end

/-! ### targets -/
@[simp] def gNm (i : Nat) : Gx := fun d e => some (e.put i false d)
@[simp] def gNl : List D → En → Option En := fun ds e => match ds with
  | [] => some e
  | _ => none
@[simp] def gCs (g : Gx) (r : List D → En → Option En) : List D → En → Option En := fun ds e => match ds with
  | d :: ds => (g d e).bind (r ds)
  | [] => none
@[simp] def gTp (g : List D → En → Option En) : Gx := fun d e => match d with
  | .tup ds => g ds e
  | _ => none
/-- the slots outside vs are let alone -/
def Only (vs : List Nat) (σ σ' : L2.St) : Prop := σ'.length = σ.length ∧ ∀ i, i ∉ vs → σ'[i]? = σ[i]?
theorem Only.refl {vs : List Nat} {σ : L2.St} : Only vs σ σ := ⟨rfl, fun _ _ => rfl⟩
theorem Only.trans {vs ws : List Nat} {σ σ' σ2 : L2.St} (h : Only vs σ σ') (g : Only ws σ' σ2) : Only (vs ++ ws) σ σ2 :=
  ⟨g.1.trans h.1, fun i n => (g.2 i fun z => n (List.mem_append_right _ z)).trans (h.2 i fun z => n (List.mem_append_left _ z))⟩
theorem wipe_get {σ : L2.St} : ∀ (vs : List Nat) (i : Nat), (wipe σ vs)[i]? = if i ∈ vs ∧ i < σ.length then some none else σ[i]?
  | [], i => by simp [wipe]
  | v :: vs, i => by
    unfold wipe
    by_cases q : v = i
    · subst q
      by_cases z : v < σ.length
      · rw [List.getElem?_set_self (by rw [wipe_length]; exact z), if_pos ⟨by simp, z⟩]
      · rw [List.getElem?_eq_none (by rw [List.length_set, wipe_length]; omega), if_neg (fun h => z h.2), List.getElem?_eq_none (by omega)]
    · rw [List.getElem?_set_ne q, wipe_get vs i]
      by_cases z : i ∈ vs ∧ i < σ.length
      · rw [if_pos z, if_pos ⟨List.mem_cons_of_mem _ z.1, z.2⟩]
      · rw [if_neg z, if_neg fun h => z ⟨(List.mem_cons.mp h.1).resolve_left (Ne.symm q), h.2⟩]
theorem Only.wipe {is vs : List Nat} {σ σ' : L2.St} (h : Only is σ σ') (s : ∀ i ∈ is, i ∈ vs) : wipe σ' vs = wipe σ vs := by
  refine List.ext_getElem? fun i => ?_
  rw [wipe_get, wipe_get, h.1]
  by_cases q : i ∈ vs
  · by_cases z : i < σ.length
    · rw [if_pos ⟨q, z⟩, if_pos ⟨q, z⟩]
    · rw [if_neg fun h => z h.2, if_neg fun h => z h.2, List.getElem?_eq_none (by rw [h.1]; omega), List.getElem?_eq_none (by omega)]
  · rw [if_neg fun h => q h.1, if_neg fun h => q h.1, h.2 i fun z => q (s i z)]
def TGo (C : Cn) (is : List Nat) (g : Gx) : TG := fun v σ H Q => ∃ env W st d env', W.H = H ∧ SR C env W st σ ∧ C.rp W d v ∧ g d env = some env' ∧ ∀ σ', SR C env' W st σ' → Only is σ σ' → Q σ' H
def TGso (C : Cn) (is : List Nat) (g : List D → En → Option En) : TGs := fun vs σ H Q => ∃ env W st ds env', W.H = H ∧ SR C env W st σ ∧ RpL C.X.K C.X.mg W.as W.G ds vs ∧ g ds env = some env' ∧ ∀ σ', SR C env' W st σ' → Only is σ σ' → Q σ' H
def SG (C : Cn) (is : List Nat) (e : Expr) (g : Gx) : Prop := PG C.X e (TGo C is g)
def SGs (C : Cn) (is : List Nat) (es : List Expr) (g : List D → En → Option En) : Prop := PGs C.X es (TGso C is g)
section
variable {C : Cn} {is js : List Nat} {e : Expr} {es : List Expr} {g : Gx} {gs : List D → En → Option En} {pos : Pos}
theorem sg_nm {i : Nat} {x : Str} (n : Nm C i x) : SG C [i] (.Name x pos) (gNm i) :=
  PG.imp (pg_name n.nod n.at_ n.loc n.fn) fun v σ H Q ⟨env, W, st, d, env', e, R, r, hg, h⟩ => by
    cases hg
    exact h _ (R.put n.lt r) ⟨List.length_set, fun j hj => List.getElem?_set_ne (fun z => hj (by simp [z]))⟩
theorem sg_nil : SGs C [] [] gNl := PGs.imp pgs_nil fun v σ H Q ⟨env, W, st, ds, env', e, R, r, hg, h⟩ => by
  cases ds with
  | nil =>
    simp only [RpL] at r
    subst r
    cases hg
    exact ⟨rfl, h _ R .refl⟩
  | cons d ds => cases hg
theorem sg_cons (h1 : SG C is e g) (h2 : SGs C js es gs) (hs : (assignEach (e :: es) C.X.env).map (·.2) = assign e C.X.env :: (assignEach es C.X.env).map (·.2) := by rfl) {ks : List Nat} (hk : is ++ js = ks := by rfl) : SGs C ks (e :: es) (gCs g gs) := by
  subst hk
  exact PGs.imp (pgs_cons h1 h2 hs) fun v σ H Q ⟨env, W, st, ds, env', e, R, r, hg, h⟩ => by
    cases ds with
    | nil => cases hg
    | cons d ds =>
      simp only [RpL] at r
      obtain ⟨v0, vr, ev, r1, r2⟩ := r
      have hg' : (g d env).bind (gs ds) = some env' := hg
      cases q : g d env with
      | none => rw [q] at hg'; cases hg'
      | some env1 =>
        rw [q] at hg'
        exact ⟨v0, vr, ev, env, W, st, d, env1, e, R, r1, q, fun σ1 R1 o1 => ⟨env1, W, st, ds, env', e, R1, r2, hg', fun σ2 R2 o2 => h σ2 R2 (o1.trans o2)⟩⟩
theorem sg_tup {k n : Nat} (hc : C.X.calm = true) (h : SGs C is es gs) (hl : ∀ ds env env', gs ds env = some env' → ds.length = n) (hn : (assignEach es C.X.env).length = n := by rfl) (hst : (assignEach es C.X.env).findIdx? (·.1) = none := by rfl) : SG C is (.Tuple es k pos) (gTp gs) :=
  PG.imp (pg_tup hc h hn hst) fun v σ H Q ⟨env, W, st, d, env', e, R, r, hg, h⟩ => by
    cases d with
    | tup ds =>
      have hg' : gs ds env = some env' := hg
      simp only [Rp] at r
      obtain ⟨a, xs, ev, sq, _, l⟩ := r
      exact ⟨a, xs, ev, (by rw [← e]; exact SqT.up R.ok.sub sq), by rw [← l.len]; exact hl _ _ _ hg', env, W, st, ds, env', e, R, l, hg', h⟩
    | _ => cases hg
end
/-- target = value -/
@[simp] def sAsg (g : Gx) (m : Ex) : Sx := fun env => bnd (m env) fun d => match g d env with
  | some e' => ret (.nx e')
  | none => halt
section
variable {C : Cn} {κ : Kd} {is : List Nat} {tg e : Expr} {g : Gx} {me : Ex} {pos : Pos}
theorem ss_asg (he : SE C .froz e me) (hg : SG C is tg g) (hs : swapsWithSole [tg] e pos.line C.X.env = pure false := by rfl) (hw : swappedStores [tg] e C.X.env = pure none := by rfl)
    (h1 : (assignEach [tg] C.X.env).map (·.2) = [assign tg C.X.env] := by rfl) : SS C κ (.Assign [tg] e pos) (sAsg g me) :=
  PS.imp (ps_asg he hg hs hw h1) fun D σ H ⟨env, W, st, e, R, o⟩ => by
    subst e
    refine te_of (κe := .froz) R o fun d st' v W' e' k' r' o' => ?_
    cases q : g d env with
    | none => rw [q] at o'; exact False.elim o'
    | some env' =>
      rw [q] at o'
      exact ⟨env, W', st', d, env', rfl, R.up e' k', r', q, fun σ' R' _ => (show kFl C κ D W (.nx env') st' from o') σ' W' R' e'.lat⟩
end
/-- a, b = x, y of plain local names -/
@[simp] def sPar (i j : Nat) (m : Lx) : Sx := fun env => bnd (m env) fun ds => match ds with
  | [x, y] => ret (.nx ((env.put i false x).put j false y))
  | _ => halt
section
variable {C : Cn} {κ : Kd} {i j : Nat} {x y : Str} {a b : Expr} {ml : Lx} {px py pt pos : Pos} {kt k2 : _} {pt2 : _}
theorem ss_par (hc : C.X.calm = true) (n : Nm C i x) (n' : Nm C j y) (hij : i ≠ j) (hx : C.X.env.scope.names.lookup x = some .local) (hy : C.X.env.scope.names.lookup y = some .local) (ha : SA C [a, b] ml)
    (hw : swappedStores [.Tuple [.Name x px, .Name y py] kt pt] (.Tuple [a, b] k2 pt2) C.X.env = pure (some [x, y]))
    (hs : swapsWithSole [.Tuple [.Name x px, .Name y py] kt pt] (.Tuple [a, b] k2 pt2) pos.line C.X.env = pure false := by rfl) :
    SS C κ (.Assign [.Tuple [.Name x px, .Name y py] kt pt] (.Tuple [a, b] k2 pt2) pos) (sPar i j ml) :=
  PS.imp (ps_par hc n.nod n.at_ n'.at_ hij hx hy ha hw hs) fun D σ H ⟨env, W, st, e, R, o⟩ => by
    subst e
    refine ⟨env, W, st, rfl, R, ((OutS.bnd o).out R.ext).imp fun ds st' o' vs W' e' k' r' => ?_⟩
    match ds, r', o' with
    | [d1, d2], r', o' =>
      simp only [RpL] at r'
      obtain ⟨v1, _, rfl, r1, v2, _, rfl, r2, rfl⟩ := r'
      exact ⟨v1, v2, rfl, (show kFl C κ D W (.nx _) st' from o') _ W' (((R.up e' k').put n.lt r1).put n'.lt r2) e'.lat⟩
    | [], _, o' => exact False.elim o'
    | [_], _, o' => exact False.elim o'
    | _ :: _ :: _ :: _, _, o' => exact False.elim o'
end

/-! ### what is walked -/
/-- the iterator J gives the data ds -/
def WalkD (C : Cn) (W1 : Wd) (J : It) (ds : List D) : Prop := ∃ G Y, Walk J ds.length G Y ∧ (∀ W st, Lat W1 W → C.ok W st → G W.H) ∧
  ∀ i W st x H', i < ds.length → Lat W1 W → C.ok W st → Y i W.H x H' → ∃ W' d, W'.H = H' ∧ Ext W W' ∧ C.ok W' st ∧ ds[i]? = some d ∧ C.rp W' d x
def TIo (C : Cn) (m : Lx) : TI := fun σ H Q => ∃ env W st, W.H = H ∧ SR C env W st σ ∧ Out C σ W (m env st) fun ds st' => ∀ J W', Ext W W' → C.ok W' st' → WalkD C W' J ds → Q J W'.H
def SI (C : Cn) (tg e : Expr) (m : Lx) : Prop := PI C.X tg e (TIo C m)
def forS (g : Gx) (b : Sx) : List D → En → M Fl
  | [], env => ret (.nx env)
  | d :: ds, env => match g d env with
    | none => halt
    | some e1 => bnd (b e1) fun f => match f with
      | .nx e2 => forS g b ds e2
      | .rt d => ret (.rt d)
def sFor (it : Lx) (g : Gx) (b : Sx) : Sx := fun env => bnd (it env) fun ds => forS g b ds env
section
variable {C : Cn} {κ : Kd} {is : List Nat} {tg iter : Expr} {body : List Stmt} {mi : Lx} {g : Gx} {mb : Sx} {pos : Pos}
theorem ss_for (hp : PassesOwn (model C.X.prog C.X.w) C.X.A C.X.env C.X.xe) (hc : C.X.calm = true) (hi : SI C tg iter mi) (hg : SG C is tg g) (hb : SSs C κ body mb)
    (hs : ∀ x, foldedSetIterable iter C.X.env x = pure x := by intro _; rfl) : SS C κ (.For tg iter body [] pos) (sFor mi g mb) :=
  PS.imp (ps_for hp hc hi hg hb hs) fun D σ H ⟨env, W, st, e, R, o⟩ => by
    subst e
    refine ⟨env, W, st, rfl, R, ((OutS.bnd o).out R.ext).imp fun ds st' o' J W' e' k' wd => ?_⟩
    obtain ⟨G, Y, wk, hG, hY⟩ := wd
    refine for_it wk (fun i σ H => ∃ env1 W1 st1, W1.H = H ∧ SR C env1 W1 st1 σ ∧ Lat W' W1 ∧ OutS C (forS g mb (ds.drop i) env1 st1) (kFl C κ D W1)) ⟨env, W', st', rfl, R.up e' k', .refl _, o'.imp fun f s h => h.lat e'.lat⟩
      (fun i σ1 H1 _ ⟨env1, W1, st1, h1, R1, l1, _⟩ => by rw [← h1]; exact hG W1 st1 l1 R1.ok) (fun i x σ1 H1 H2 hlt ⟨env1, W1, st1, h1, R1, l1, o1⟩ y => ?_) fun σ1 H1 ⟨env1, W1, st1, h1, R1, l1, o1⟩ => ?_
    · subst h1
      obtain ⟨W2, d, h2, e2, k2, hd, r2⟩ := hY i W1 st1 x H2 hlt l1 R1.ok y
      subst h2
      have hdr : ds.drop i = d :: ds.drop (i + 1) := by
        rw [List.drop_eq_getElem_cons hlt]
        have := List.getElem?_eq_getElem hlt
        rw [hd] at this
        rw [← Option.some.inj this]
      rw [hdr] at o1
      unfold forS at o1
      cases q : g d env1 with
      | none => rw [q] at o1; exact False.elim o1
      | some env2 =>
        rw [q] at o1
        have R2 := R1.up e2 k2
        refine ⟨env1, W2, st1, d, env2, rfl, R2, r2, q, fun σ3 R3 _ => ⟨env2, W2, st1, rfl, R3, (OutS.bnd o1).imp fun f st4 o4 => ?_⟩⟩
        cases f with
        | nx env4 => exact fun σ4 W4 R4 l4 => ⟨env4, W4, st4, rfl, R4, (l1.trans e2.lat).trans l4, o4.imp fun f s h => h.lat (e2.lat.trans l4)⟩
        | rt d4 => exact fun v W4 x4 k4 r4 => (show kFl C κ D W1 (.rt d4) st4 from o4) v W4 x4 k4 r4
    · subst h1
      rw [List.drop_of_length_le (Nat.le_refl _)] at o1
      exact (show kFl C κ D W1 (.nx env1) st1 from o1) σ1 W1 R1 (.refl W1)
end

/-! ### comprehensions -/
/-- within a comprehension nothing is raised -/
def quiet {α : Type} (m : M α) : M α := fun s => match m s with
  | .ok a s' => .ok a s'
  | _ => .stuck
def lcS (g : Gx) (t : Tx) (m : Ex) : List D → En → M (List D)
  | [], _ => ret []
  | d :: ds, env => match g d env with
    | none => halt
    | some e1 => bnd (t e1) fun b => if b = true then bnd (m e1) fun y => bnd (lcS g t m ds env) fun ys => ret (y :: ys) else lcS g t m ds env
@[simp] def En.clr (e : En) (vs : List Nat) : En := fun i => if i ∈ vs then none else e i
def eLc (vs : List Nat) (it : Lx) (g : Gx) (t : Tx) (m : Ex) : Ex := fun env => bnd (it env) fun ds => if ds.length ≤ line then quiet (bnd (lcS g t m ds (env.clr vs)) fun ys => ret (.lst ys)) else halt
@[simp] def tYesS : Tx := fun _ => ret true
/-- the block's context -/
def Cn.blk (C : Cn) (s : Shared) (H : Hp) (scope : Scope) (Cl : Addr) (cl : List (Str × Addr)) (fp : List Addr) : Cn := { X := C.X.blk s H scope (compEnvC scope cl Cl C.X.env) fp, W0 := C.W0, Wx := fun _ _ _ _ => False }
def SBE (C : Cn) (scope : Scope) (κ : Kd) (e : Expr) (m : Ex) : Prop := ∀ (s : Shared) (H : Hp) (Cl : Addr) (cl : List (Str × Addr)) (fp : List Addr), SE (C.blk s H scope Cl cl fp) κ e m
/-- the clause's tests -/
def STs (C : Cn) (es : List Expr) (m : Tx) : Prop := PTs C.X es (TTo C m)
theorem sts_nil {C : Cn} : STs C [] tYesS := PTs.imp pts_nil fun σ H Q ⟨env, W, st, e, R, o⟩ => by
  subst e
  exact (show (∀ W', Ext W W' → C.ok W' st → Q true W'.H) from o) W (.refl W) R.ok
theorem sts_one {C : Cn} {c : Expr} {t : Tx} (h : ST C c t) : STs C [c] t := pts_one h
theorem quiet_bnd {C' C : Cn} {α β : Type} {σ σ' : L2.St} {W W' : Wd} {m : M α} {f : α → M β} {st : Store} {k : β → Store → Prop} (o : Out C σ W (quiet (bnd m f) st) k) : Out C' σ' W' (m st) fun a st' => Out C σ W (quiet (f a) st') k := by
  unfold quiet bnd at o
  cases q : m st with
  | ok a st' => rw [q] at o; exact o
  | exc c fs st' => rw [q] at o; exact False.elim o
  | stuck => rw [q] at o; exact False.elim o
theorem Out.quiet {C : Cn} {α : Type} {σ : L2.St} {W : Wd} {m : M α} {st : Store} {k : α → Store → Prop} (o : Out C σ W (quiet m st) k) : ∃ a st', m st = .ok a st' ∧ k a st' := by
  unfold Sm.quiet at o
  cases q : m st with
  | ok a st' => rw [q] at o; exact ⟨a, st', rfl, o⟩
  | exc c fs st' => rw [q] at o; exact False.elim o
  | stuck => rw [q] at o; exact False.elim o
theorem bnd_ok {α β : Type} {m : M α} {f : α → M β} {st st2 : Store} {b : β} (h : bnd m f st = .ok b st2) : ∃ a st1, m st = .ok a st1 ∧ f a st1 = .ok b st2 := by
  unfold bnd at h
  cases q : m st with
  | ok a st1 => rw [q] at h; exact ⟨a, st1, rfl, h⟩
  | exc c fs s => rw [q] at h; cases h
  | stuck => rw [q] at h; cases h
theorem Out.of_ok {C : Cn} {α : Type} {σ : L2.St} {W : Wd} {r : Res α} {a : α} {st : Store} {k : α → Store → Prop} (h : r = .ok a st) (q : k a st) : Out C σ W r k := by
  subst h; exact q
theorem SR.clr {C : Cn} {env : En} {W : Wd} {st : Store} {σ : L2.St} {vs : List Nat} (R : SR C env W st σ) : SR C (env.clr vs) W st (wipe σ vs) := by
  have n : ∀ {i x}, env.clr vs i = some x → i ∉ vs ∧ env i = some x := fun {i x} h => by
    unfold En.clr at h
    by_cases q : i ∈ vs
    · rw [if_pos q] at h; cases h
    · rw [if_neg q] at h; exact ⟨q, h⟩
  refine ⟨R.ext, by rw [wipe_length, R.len], R.ok, fun i b d h => ?_, fun i j d e a hn h1 h2 g1 g2 => ?_⟩
  · obtain ⟨q, h⟩ := n h
    obtain ⟨v, h1, h2⟩ := R.slot i b d h
    exact ⟨v, by rw [wipe_get, if_neg fun z => q z.1]; exact h1, h2⟩
  · exact R.dis i j d e a hn (n h1).2 (n h2).2 (wipe_some g1).1 (wipe_some g2).1
theorem wipe_wipe {σ : L2.St} {vs : List Nat} : wipe (wipe σ vs) vs = wipe σ vs := by
  refine List.ext_getElem? fun i => ?_
  rw [wipe_get, wipe_get, wipe_length]
  by_cases q : i ∈ vs ∧ i < σ.length
  · rw [if_pos q, if_pos q]
  · rw [if_neg q, if_neg q]
section
variable {K : PySem.W.Frag} {mg : Str → Option Value} {W W0 : Wd} {st : Store} {p : Addr} {o : HO}
/-- neither a table nor a code object -/
def nB : HO → Bool
  | .tbl _ => false
  | .ext _ => false
  | _ => true
theorem tabs_upd {T : List (Addr × Str)} {H : Hp} {p : Addr} {u o : HO} (t : LamX.Tabs T H) (hp : H p = some u) (hb : nB u = true) : LamX.Tabs T (upd H p o) := fun x hx => by
  obtain ⟨ps, h1, h2, h3⟩ := t x hx
  have n1 : x.1 ≠ p := fun z => by rw [z, hp] at h1; cases h1; cases hb
  refine ⟨ps, by rw [upd_ne n1]; exact h1, h2, fun pos cv hc => ?_⟩
  obtain ⟨c, e1, e2⟩ := h3 pos cv hc
  have n2 : c ≠ p := fun z => by
    rw [z, hp] at e2
    have := Option.some.inj e2
    subst this
    cases hb
  exact ⟨c, e1, by rw [upd_ne n2]; exact e2⟩
theorem Top.nb {d : D} {a : Addr} (t : Top K mg W a d) : ∃ u, W.H a = some u ∧ nB u = true := by
  cases d with
  | lst ds => obtain ⟨vs, h1, _⟩ := t; exact ⟨_, h1, rfl⟩
  | dct ds => rcases t with ⟨kvs, h1, _⟩ | ⟨kvs, h1, _⟩ <;> exact ⟨_, h1, rfl⟩
  | _ => exact False.elim t
theorem set_ok {u : HO} (k : W.Ok K mg st) (ng : W.G p = none) (na : p ∉ W.as) (hp : W.H p = some u) (hb : nB u = true := by rfl) : (W.new p o).Ok K mg st := by
  refine ⟨fun a u h => ?_, k.nod, k.dis, k.len, fun i ds h => ?_, tabs_upd k.tab hp hb, k.tabG⟩
  · show upd W.H p o a = some u
    have h' : W.G a = some u := h
    rw [upd_ne (show a ≠ p from fun z => by rw [z, ng] at h'; cases h')]
    exact k.sub a u h
  · obtain ⟨a, vs, h1, h2, h3⟩ := k.cel i ds h
    refine ⟨a, vs, h1, ?_, h3⟩
    show upd W.H p o a = some _
    rw [upd_ne (show a ≠ p from fun z => na (z ▸ List.mem_of_getElem? h1))]
    exact h2
theorem set_ext (e : Ext W0 W) (n0 : Nn (W0.H p)) : Ext W0 (W.new p o) := by
  refine ⟨e.g, e.gn, e.as, e.asn, fun a u h n z => ?_, e.t, fun a h => ?_⟩
  · show upd W.H p o a = some u
    rw [upd_ne (show a ≠ p from fun y => nn_no n0 (y ▸ h) z)]
    exact e.h a u h n z
  · have h' : Nn (upd W.H p o a) := h
    by_cases z : a = p
    · rw [z]; exact n0
    · rw [upd_ne z] at h'; exact e.hn a h'
theorem set_lat : Lat W (W.new p o) := ⟨fun _ _ h => h, ⟨[], by show W.as = W.as ++ []; simp⟩⟩
end
/-- the context of blocks, at the expression -/
def Cn.inn (C : Cn) : Cn := { C with Wx := fun _ _ _ _ => False }
section
variable {C : Cn} {env : En} {W : Wd} {st : Store} {σ : L2.St} {s : Shared} {H : Hp} {scope : Scope} {Cl : Addr} {cl : List (Str × Addr)} {fp : List Addr}
theorem SR.toBlk (R : SR C.inn env W st σ) : SR (C.blk s H scope Cl cl fp) env W st σ := ⟨R.ext, R.len, R.ok, R.slot, R.dis⟩
theorem SR.ofBlk (R : SR (C.blk s H scope Cl cl fp) env W st σ) : SR C.inn env W st σ := ⟨R.ext, R.len, R.ok, R.slot, R.dis⟩
theorem SR.toInn (R : SR C env W st σ) : SR C.inn env W st σ := ⟨R.ext, R.len, R.ok, R.slot, R.dis⟩
theorem Out.toBlk {α : Type} {r : Res α} {k : α → Store → Prop} (o : Out C.inn σ W r k) : Out (C.blk s H scope Cl cl fp) σ W r k := by
  cases r with
  | ok a st => exact o
  | exc c fs st => exact o
  | stuck => exact o
theorem blk_g {is : List Nat} {tg : Expr} {g : Gx} (h : SG (C.blk s H scope Cl cl fp) is tg g) : PG (C.X.blk s H scope (compEnvC scope cl Cl C.X.env) fp) tg (TGo C.inn is g) :=
  PG.imp h fun v σ H Q ⟨env, W, st, d, env', e, R, r, hg, q⟩ => ⟨env, W, st, d, env', e, R.toBlk, r, hg, fun σ' R' o => q σ' R'.ofBlk o⟩
theorem blk_t {es : List Expr} {m : Tx} (h : STs (C.blk s H scope Cl cl fp) es m) : PTs (C.X.blk s H scope (compEnvC scope cl Cl C.X.env) fp) es (TTo C.inn m) :=
  PTs.imp h fun σ H Q ⟨env, W, st, e, R, o⟩ => ⟨env, W, st, e, R.toBlk, o.toBlk⟩
theorem blk_e {κ : Kd} {e : Expr} {m : Ex} (h : SE (C.blk s H scope Cl cl fp) κ e m) : PE (C.X.blk s H scope (compEnvC scope cl Cl C.X.env) fp) e (TEo C.inn κ m) :=
  PE.imp h fun σ H Q ⟨env, W, st, e, R, o⟩ => ⟨env, W, st, e, R.toBlk, o.toBlk⟩
end
section
variable {C : Cn} {is : List Nat} {tg iter elt : Expr} {ifs : List Expr} {mi : Lx} {g : Gx} {mt : Tx} {me : Ex} {scope : Scope} {own : List (Str × Nat)} {pos : Pos} {σ : L2.St} {H : Hp} {Q : VK}
theorem lc_go (hsub : ∀ i ∈ is, i ∈ own.map (·.2)) (h : TEo C .fresh (eLc (own.map (·.2)) mi g mt me) σ H Q) : tLc (TIo C mi) (TGo C.inn is g) (TTo C.inn mt) (TEo C.inn .froz me) (own.map (·.2)) σ H Q := by
  obtain ⟨env, W, st, e, R, o⟩ := h
  subst e
  refine ⟨env, W, st, rfl, R, (Out.bnd o).imp fun ds st1 o1 J W1 e1 k1 wd => ?_⟩
  intro L hL
  by_cases hlen : ds.length ≤ line
  · rw [if_pos hlen] at o1
    obtain ⟨dres, stE, hq, hk⟩ := Out.quiet o1
    obtain ⟨ysE, st2, hq, hr⟩ := bnd_ok hq
    cases hr
    obtain ⟨G, Y, wk, hG, hY⟩ := wd
    have at1 : ∀ {W2 : Wd}, Ext W1 W2 → L ∉ W2.as → W2.G L = none → True := fun _ _ _ => trivial
    refine lc_it wk (fun i H => ∃ W2 st2 acc accV ys, W2.H = H ∧ Ext W1 W2 ∧ C.ok W2 st2 ∧ L ∉ W2.as ∧ W2.G L = none ∧ W2.H L = some (.lst accV) ∧ RpL C.X.K C.X.mg W2.as W2.G acc accV ∧ accV.length ≤ i ∧
        lcS g mt me (ds.drop i) (env.clr (own.map (·.2))) st2 = .ok ys stE ∧ acc ++ ys = ysE) ?_ (fun i H _ ⟨W2, st2, acc, accV, ys, h1, e2, k2, _⟩ => by rw [← h1]; exact hG W2 st2 e2.lat k2) ?_ ?_
    · exact ⟨W1.new L (.lst []), st1, [], [], ysE, rfl, new_ext hL, new_ok k1 hL, new_as k1 hL, new_g k1 hL, upd_same, by simp [RpL], Nat.zero_le _, hq, rfl⟩
    · rintro i x H2 H3 hlt ⟨W2, st2, acc, accV, ys, h1, e2, k2, nL, gL, aL, rL, lL, hlc, hys⟩ y
      subst h1
      obtain ⟨W3, d, h3, e3, k3, hd, r3⟩ := hY i W2 st2 x H3 hlt e2.lat k2 y
      subst h3
      have hdr : ds.drop i = d :: ds.drop (i + 1) := by
        rw [List.drop_eq_getElem_cons hlt]
        have := List.getElem?_eq_getElem hlt
        rw [hd] at this
        rw [← Option.some.inj this]
      rw [hdr] at hlc
      unfold lcS at hlc
      cases qg : g d (env.clr (own.map (·.2))) with
      | none => rw [qg] at hlc; cases hlc
      | some env1 =>
        rw [qg] at hlc
        obtain ⟨b, st3, ht, hlc⟩ := bnd_ok hlc
        have R3 : SR C.inn (env.clr (own.map (·.2))) W3 st2 (wipe σ (own.map (·.2))) := ((R.up ((e1.trans e2).trans e3) k3).clr).toInn
        have step : ∀ {W4 : Wd}, Ext W3 W4 → L ∉ W4.as ∧ W4.G L = none ∧ W4.H L = some (.lst accV) ∧ RpL C.X.K C.X.mg W4.as W4.G acc accV ∧ Ext W1 W4 := fun {W4} e4 => by
          have e24 := e3.trans e4
          refine ⟨notas e24 (fun z => nn_no z aL) nL, ?_, e24.h L _ aL nL, RpL.up e24.pre e24.g _ _ rL, e2.trans e24⟩
          cases z : W4.G L with
          | none => rfl
          | some u => exact (nn_no (e24.gn L gL (by rw [z]; intro q; cases q)) aL).elim
        refine ⟨_, W3, st2, d, env1, rfl, R3, r3, qg, fun σ2 R4 on => ⟨by rw [on.wipe hsub, wipe_wipe], env1, W3, st2, rfl, R4, Out.of_ok ht fun W4 e4 k4 => ?_⟩⟩
        obtain ⟨n4, g4, a4, r4, e14⟩ := step e4
        by_cases hb : b = true
        · rw [if_pos hb] at hlc ⊢
          obtain ⟨yv, st4, hm, hlc⟩ := bnd_ok hlc
          obtain ⟨ys', st5, hlc, hr⟩ := bnd_ok hlc
          cases hr
          refine ⟨env1, W4, st3, rfl, R4.up e4 k4, Out.of_ok hm fun v W5 e5 k5 r5 => ?_⟩
          obtain ⟨n5, g5, a5, r5', e15⟩ := step (e4.trans e5)
          refine ⟨accV, a5, by have := line_eq; omega, W5.new L (.lst (accV ++ [v])), st4, acc ++ [yv], accV ++ [v], ys', rfl, set_ext e15 (nn_of hL), set_ok k5 g5 n5 a5, n5, g5, upd_same, ?_, by simp; omega, hlc, by simpa using hys⟩
          refine RpL.app r5' ?_
          simp only [RpL]
          exact ⟨v, [], rfl, r5, rfl⟩
        · rw [if_neg hb] at hlc ⊢
          exact ⟨W4, st3, acc, accV, ys, rfl, e14, k4, n4, g4, a4, r4, by omega, hlc, hys⟩
    · rintro H2 ⟨W2, st2, acc, accV, ys, h1, e2, k2, nL, gL, aL, rL, lL, hlc, hys⟩
      subst h1
      rw [List.drop_of_length_le (Nat.le_refl _)] at hlc
      cases hlc
      rw [List.append_nil] at hys
      subst hys
      have e02 := e1.trans e2
      exact hk (.ref L) W2 e02 k2 ⟨L, rfl, e1.hn L (nn_of hL), gL, nL, accV, aL, rL⟩
  · rw [if_neg hlen] at o1; exact False.elim o1
theorem se_lc (hc : C.X.calm = true) (hN : C.X.N.Nodup) (ok : BlkOk C.X.N C.X.env.scope scope own) (hsub : ∀ i ∈ is, i ∈ own.map (·.2)) (hi : SI C tg iter mi)
    (hg : ∀ s H Cl cl fp, SG (C.blk s H scope Cl cl fp) is tg g) (ht : ∀ s H Cl cl fp, STs (C.blk s H scope Cl cl fp) ifs mt) (he : ∀ s H Cl cl fp, SE (C.blk s H scope Cl cl fp) .froz elt me)
    (hs : ∀ x, foldedSetIterable iter C.X.env x = pure x := by intro _; rfl) : SE C .fresh (.ListComp elt [⟨tg, iter, ifs, 0⟩] scope pos) (eLc (own.map (·.2)) mi g mt me) :=
  PE.imp (pe_lc hc hN hi ok (fun s H Cl cl fp => blk_g (hg s H Cl cl fp)) (fun s H Cl cl fp => blk_t (ht s H Cl cl fp)) (fun s H Cl cl fp => blk_e (he s H Cl cl fp)) hs) fun σ H Q => lc_go hsub
/-- name = [..] on one line -/
theorem ss_setLc {κ : Kd} {i : Nat} {y : Str} {py spos : Pos} (n : Nm C i y) (hyl : C.X.env.scope.names.lookup y = some .local) (hc : C.X.calm = true) (hsw : swapsWith (.ListComp elt [⟨tg, iter, ifs, 0⟩] scope pos) (some (.Name y py)) spos.line C.X.env = pure true)
    (ok : BlkOk C.X.N C.X.env.scope scope own) (hsub : ∀ i ∈ is, i ∈ own.map (·.2)) (hi : SI C tg iter mi)
    (hg : ∀ s H Cl cl fp, SG (C.blk s H scope Cl cl fp) is tg g) (ht : ∀ s H Cl cl fp, STs (C.blk s H scope Cl cl fp) ifs mt) (he : ∀ s H Cl cl fp, SE (C.blk s H scope Cl cl fp) .froz elt me)
    (hs : ∀ x, foldedSetIterable iter C.X.env x = pure x := by intro _; rfl) : SS C κ (.Assign [.Name y py] (.ListComp elt [⟨tg, iter, ifs, 0⟩] scope pos) spos) (sSet i (eLc (own.map (·.2)) mi g mt me)) :=
  PS.imp (ps_setLc hc n.nod n.at_ hyl hsw hi ok (fun s H Cl cl fp => blk_g (hg s H Cl cl fp)) (fun s H Cl cl fp => blk_t (ht s H Cl cl fp)) (fun s H Cl cl fp => blk_e (he s H Cl cl fp)) hs) fun De σ H h => by
    obtain ⟨env, W, st, e, R, o⟩ := frz_own n h
    exact lc_go hsub ⟨env, W, st, e, R, o⟩
theorem ss_ownLc {κ : Kd} {i : Nat} {y : Str} {py spos : Pos} (n : Nm C i y) (hyl : C.X.env.scope.names.lookup y = some .local) (hc : C.X.calm = true) (hsw : swapsWith (.ListComp elt [⟨tg, iter, ifs, 0⟩] scope pos) (some (.Name y py)) spos.line C.X.env = pure true)
    (ok : BlkOk C.X.N C.X.env.scope scope own) (hsub : ∀ i ∈ is, i ∈ own.map (·.2)) (hi : SI C tg iter mi)
    (hg : ∀ s H Cl cl fp, SG (C.blk s H scope Cl cl fp) is tg g) (ht : ∀ s H Cl cl fp, STs (C.blk s H scope Cl cl fp) ifs mt) (he : ∀ s H Cl cl fp, SE (C.blk s H scope Cl cl fp) .froz elt me)
    (hs : ∀ x, foldedSetIterable iter C.X.env x = pure x := by intro _; rfl) : SS C κ (.Assign [.Name y py] (.ListComp elt [⟨tg, iter, ifs, 0⟩] scope pos) spos) (sOwn i (eLc (own.map (·.2)) mi g mt me)) :=
  PS.imp (ps_setLc hc n.nod n.at_ hyl hsw hi ok (fun s H Cl cl fp => blk_g (hg s H Cl cl fp)) (fun s H Cl cl fp => blk_t (ht s H Cl cl fp)) (fun s H Cl cl fp => blk_e (he s H Cl cl fp)) hs) fun De σ H h => by
    obtain ⟨env, W, st, e, R, o⟩ := own_go n h
    exact lc_go hsub ⟨env, W, st, e, R, o⟩
end
end Sm


set_option Elab.async false
set_option linter.all false
set_option maxRecDepth 100000
set_option maxHeartbeats 1000000
/-! Sm6: what is walked: lists, tuples, texts, ranges, enumerate, zip. -/
namespace Sm
open PySem PySem.Spec L2

/-- a thing that an iterator goes through -/
inductive Src where
  | lst (a : Addr) | tup (a : Addr) | txt (x : Str)
def Src.has (K : PySem.W.Frag) (H : Hp) (i : Nat) (v : V) : Src → Prop
  | .lst a => ∃ xs, SqL K H a xs ∧ xs[i]? = some v
  | .tup a => ∃ xs, SqT K H a xs ∧ xs[i]? = some v
  | .txt x => ∃ c, x.cps[i]? = some c ∧ v = .str ⟨#[c]⟩
/-- the i-th is v, whatever way it is read -/
def Src.all (K : PySem.W.Frag) (H : Hp) (i : Nat) (v : V) : Src → Prop
  | .lst a => ∀ xs, SqL K H a xs → xs[i]? = some v
  | .tup a => ∀ xs, SqT K H a xs → xs[i]? = some v
  | .txt x => ∃ c, x.cps[i]? = some c ∧ v = .str ⟨#[c]⟩
theorem Src.all_of {S : Src} {X : Cx} {pins : List (Addr × Obj)} {σ : L2.St} {H : Hp} {s : Shared} {i : Nat} {v : V} (I : Inv X pins σ H s) (h : S.has X.K H i v) : S.all X.K H i v := by
  cases S with
  | lst a => obtain ⟨xs, h1, h2⟩ := h; exact fun ys hy => by rw [I.list_inj hy h1]; exact h2
  | tup a => obtain ⟨xs, h1, h2⟩ := h; exact fun ys hy => by rw [I.tuple_inj hy h1]; exact h2
  | txt x => exact h
def Src.len (K : PySem.W.Frag) (H : Hp) (n : Nat) : Src → Prop
  | .lst a => ∃ xs, SqL K H a xs ∧ xs.length = n
  | .tup a => ∃ xs, SqT K H a xs ∧ xs.length = n
  | .txt x => x.cps.size = n
def Src.itr (h : Heap) (it : Addr) (i : Nat) : Src → Prop
  | .lst a => h.IsListIter it a i
  | .tup a => h.IsTupleIter it a i
  | .txt x => ∃ t, h.IsStrIter it (strIterType x) x t i
def Src.val : Src → Value → Prop
  | .lst a, v => v = .ref a
  | .tup a, v => v = .ref a
  | .txt x, v => ∃ t, v = .str x t
theorem Src.itr_at {S : Src} {h h' : Heap} {it : Addr} {i : Nat} (x : S.itr h it i) (k : ∀ o, h.get? it = some o → h'.get? it = some o) : S.itr h' it i := by
  cases S with
  | lst a => exact Heap.IsListIter.at x k
  | tup a => exact Heap.IsTupleIter.at x k
  | txt z => obtain ⟨t, o, ho, r⟩ := x; exact ⟨t, o, k o ho, r⟩
theorem Src.itr_obj {S : Src} {h : Heap} {it : Addr} {i : Nat} (x : S.itr h it i) : ∃ o, h.get? it = some o ∧ ∀ v, o.data ≠ .cell v := by
  cases S with
  | lst a => obtain ⟨o, e, _, d⟩ := x; exact ⟨o, e, fun v q => by rw [d] at q; cases q⟩
  | tup a => obtain ⟨o, e, _, d⟩ := x; exact ⟨o, e, fun v q => by rw [d] at q; cases q⟩
  | txt z => obtain ⟨t, o, e, _, d⟩ := x; exact ⟨o, e, fun v q => by rw [d] at q; cases q⟩
/-- the addresses that its iterator at it leans on -/
def Src.fp (it : Addr) : Src → List Addr
  | .lst a => [it, a]
  | .tup a => [it, a]
  | .txt _ => [it]
section
variable {X : Cx} {pins : List (Addr × Obj)} {σ : L2.St} {H : Hp} {s : Shared} {it : Addr} {A : Around}
/-- the iterator as the library's Draws -/
theorem Src.draws (S : Src) (I : Inv X pins σ H s) (hh : A.handled = none) {i n : Nat} (hn : H it = none) (hi : S.itr s.heap it i) (hl : S.len X.K H n) :
    ∃ (P : Nat → Value → Prop) (St : Nat → Heap → Prop), Draws X.prog X.w A it (S.fp it) n P St ∧ St i s.heap ∧ (∀ j v u, S.has X.K H j v → P j u → RelV v u) ∧ (∀ j h, St j h → S.itr h it j) ∧ (∀ b ∈ S.fp it, b < s.heap.objs.size) := by
  cases S with
  | lst a =>
    obtain ⟨xs, hq, hl⟩ := hl
    obtain ⟨its, rv, p, hz⟩ := I.list hq
    have hne : a ≠ it := fun e => by
      subst e
      obtain ⟨o, e1, c1, _⟩ := hi
      obtain ⟨o2, e2, c2, _⟩ := p.isList
      rw [e1] at e2; cases e2; rw [c1] at c2; injection c2 with q; exact absurd q (by decide)
    have hsz : its.toArray.size = n := by rw [List.size_toArray, ← rv.length, hl]
    refine ⟨_, _, hsz ▸ Draws.list hh it a hne its.toArray, ⟨hi, p.isList⟩, fun j v u ⟨ys, hy, hv⟩ hu => ?_, fun j h st => st.1, fun b hb => ?_⟩
    · rw [I.list_inj hy hq] at hv
      obtain ⟨u', h1, h2⟩ := rv.get hv
      have hu' : its.toArray[j]? = some u := hu
      rw [List.getElem?_toArray, h1] at hu'
      cases hu'; exact h2
    · have e' : b = it ∨ b = a := by simpa [Src.fp] using hb
      rcases e' with z | z
      · obtain ⟨o, e1, _⟩ := hi; rw [z]; exact Heap.lt_size e1
      · rw [z]; exact p.lt
  | tup a =>
    obtain ⟨xs, hq, hl⟩ := hl
    obtain ⟨its, rv, p, hz⟩ := I.tuple hq
    have hne : a ≠ it := fun e => by
      subst e
      obtain ⟨o, e1, c1, _⟩ := hi
      obtain ⟨o2, e2, c2, _⟩ := id p
      rw [e1] at e2; cases e2; rw [c1] at c2; injection c2 with q; exact absurd q (by decide)
    have hsz : its.toArray.size = n := by rw [List.size_toArray, ← rv.length, hl]
    refine ⟨_, _, hsz ▸ Draws.tuple hh it a hne its.toArray, ⟨hi, p⟩, fun j v u ⟨ys, hy, hv⟩ hu => ?_, fun j h st => st.1, fun b hb => ?_⟩
    · rw [I.tuple_inj hy hq] at hv
      obtain ⟨u', h1, h2⟩ := rv.get hv
      have hu' : its.toArray[j]? = some u := hu
      rw [List.getElem?_toArray, h1] at hu'
      cases hu'; exact h2
    · have e' : b = it ∨ b = a := by simpa [Src.fp] using hb
      rcases e' with z | z
      · obtain ⟨o, e1, _⟩ := hi; rw [z]; exact Heap.lt_size e1
      · rw [z]; obtain ⟨o2, e2, _⟩ := id p; exact Heap.lt_size e2
  | txt x =>
    obtain ⟨t, hi⟩ := hi
    have hl : x.cps.size = n := hl
    refine ⟨_, _, hl ▸ Draws.text hh it x t, hi, fun j v u ⟨c, hc, hv⟩ hu => ?_, fun j h st => ⟨t, st⟩, fun b hb => ?_⟩
    · obtain ⟨c', u', h1, h2⟩ := hu
      rw [hc] at h1
      cases h1
      subst hv h2
      exact ⟨u', rfl⟩
    · have e' : b = it := by simpa [Src.fp] using hb
      obtain ⟨o, e1, _⟩ := hi
      rw [e']; exact Heap.lt_size e1
/-- iter(..) of it -/
theorem Src.begins (S : Src) {v : Value} {n : Nat} (I : Inv X pins σ H s) (hv : S.val v) (hl : S.len X.K H n) : ∃ (o : Obj) (φ : Heap → Prop), Begins v o φ ∧ φ s.heap ∧ ∀ (h : Heap) (it : Addr), h.get? it = some o → S.itr h it 0 := by
  cases S with
  | lst a =>
    obtain ⟨xs, hq, hl⟩ := hl
    obtain ⟨its, rv, p, hz⟩ := I.list hq
    cases hv
    exact ⟨_, _, begins_list a its.toArray, p.isList, fun h it e => ⟨_, e, rfl, rfl⟩⟩
  | tup a =>
    obtain ⟨xs, hq, hl⟩ := hl
    obtain ⟨its, rv, p, hz⟩ := I.tuple hq
    cases hv
    exact ⟨_, _, begins_tuple a its.toArray, p, fun h it e => ⟨_, e, rfl, rfl⟩⟩
  | txt x =>
    obtain ⟨t, rfl⟩ := hv
    exact ⟨_, _, begins_text x t, trivial, fun h it e => ⟨t, _, e, rfl, rfl⟩⟩
end
/-- enumerate: pairs -/
def Iter1 (K : PySem.W.Frag) (S : Src) : It :=
  ⟨fun i H => (∃ v, S.has K H i v) ∧ ∃ n, S.len K H n ∧ i < n, fun i H v H' => ∃ T x o, v = .ref T ∧ H T = none ∧ o.dict = none ∧ H' = upd H T (.frz o (.tup [.int (i : Nat), x])) ∧ S.all K H i x, fun i H => S.len K H i⟩
def Iter2 (K : PySem.W.Frag) (S1 S2 : Src) : It :=
  ⟨fun i H => (∃ v, S1.has K H i v) ∧ (∃ v, S2.has K H i v) ∧ ∃ n1 n2, S1.len K H n1 ∧ S2.len K H n2 ∧ i < n1 ∧ i < n2,
    fun i H v H' => ∃ T x y o, v = .ref T ∧ H T = none ∧ o.dict = none ∧ H' = upd H T (.frz o (.tup [x, y])) ∧ S1.all K H i x ∧ S2.all K H i y, fun i H => ∃ n1 n2, S1.len K H n1 ∧ S2.len K H n2 ∧ i = min n1 n2⟩
theorem turn_enumS {P : Program} {w : World} {K : PySem.W.Frag} {elts : List Expr} {kk : Nat} {tpos : Pos} (S : Src) (e it : Addr) :
    Turn P w K (.Tuple elts kk tpos) (Iter1 K S) [e, it] e (fun i h => (∃ old, IsEnum h e it ((i : Nat) : Int) old) ∧ S.itr h it i ∧ e ≠ it) where
  mem := by simp
  obj := fun i h st b hb => by
    obtain ⟨⟨old, he⟩, hi, _⟩ := st
    have e' : b = e ∨ b = it := by simpa using hb
    rcases e' with z | z
    · rw [z]; exact ⟨_, he, fun v q => nomatch q⟩
    · rw [z]; exact S.itr_obj hi
  keep := fun i h h' st k => let ⟨⟨old, he⟩, hi, hne⟩ := st; ⟨⟨old, k e (by simp) _ he⟩, S.itr_at hi fun o q => k it (by simp) o q, hne⟩
  item := by
    intro X hP hw hK hc i pins s σ H E I hf st hg
    subst hP hw hK
    obtain ⟨⟨old, he⟩, hit, hne⟩ := st
    obtain ⟨⟨x, hx⟩, n, hl, hlt⟩ := hg
    obtain ⟨PP, St, Dr, st0, hr, hitr, hfp⟩ := S.draws (A := X.A.in1) I (show X.A.in1.handled = none from I.ok.hd hc) (hf it (by simp)).1 hit hl
    have hel : e < s.heap.objs.size := Heap.lt_size he
    have hil : it < s.heap.objs.size := by obtain ⟨_, q, _⟩ := S.itr_obj hit; exact Heap.lt_size q
    have hef : e ∉ S.fp it := fun hm => by
      have hn := (hf e (by simp)).1
      cases S with
      | lst a =>
        have e' : e = it ∨ e = a := by simpa [Src.fp] using hm
        rcases e' with z | z
        · exact hne z
        · obtain ⟨xs, hq, _⟩ := hl
          obtain ⟨its, _, p, _⟩ := I.list hq
          obtain ⟨o2, e2, c2, _⟩ := p.isList
          rw [← z, he] at e2; cases e2; injection c2 with q; exact absurd q (by decide)
      | tup a =>
        have e' : e = it ∨ e = a := by simpa [Src.fp] using hm
        rcases e' with z | z
        · exact hne z
        · obtain ⟨xs, hq, _⟩ := hl
          obtain ⟨its, _, p, _⟩ := I.tuple hq
          obtain ⟨o2, e2, c2, _⟩ := id p
          rw [← z, he] at e2; cases e2; injection c2 with q; exact absurd q (by decide)
      | txt z => exact hne (by simpa [Src.fp] using hm)
    refine wpAny_pyNext_enum_itemC Dr he st0 hlt hne hef fun u h' tk hP ho hs' hT hsz hk => ?_
    refine ⟨_, rfl, wpAny_letOwnedTupleGo_enum (s := { s with heap := h', toks := tk + 1 }) ho fun h'' he' sb => ?_⟩
    have hT2 : h''.get? s.heap.objs.size = some { cls := .type "tuple", data := .seq #[.int i tk, u] } := (sb.2 _ (Nat.ne_of_gt hel)).trans hT
    have new : ObjOk X.prog X.w (upd H s.heap.objs.size (.frz { cls := .type "tuple", data := .seq #[.int i tk, u] } (.tup [.int (i : Nat), x]))) h'' s.heap.objs.size (.frz { cls := .type "tuple", data := .seq #[.int i tk, u] } (.tup [.int (i : Nat), x])) :=
      ⟨hT2, by show 2 ≤ sizeLine; decide, [.int i tk, u], .cons ⟨_, rfl⟩ (.cons (hr i x u hx hP) .nil), ⟨_, hT2, rfl, _, rfl⟩⟩
    have I1 := I.turnedNew (h' := h'') (t' := tk + 1) (ch := [e, it]) (fun b ob hb q => (sb.2 b (fun z => hb (by simp [z]))).trans (hk b ob (fun z => hb (by simp [z])) (fun z => hb (by simp [z])) q)) hf (Nat.le_refl _) new
    refine ⟨.ref s.heap.objs.size, _, I1, rfl, ⟨_, x, _, rfl, I.hok.fresh (Nat.le_refl _), rfl, rfl, Src.all_of I hx⟩, ⟨⟨u, ?_⟩, ?_, hne⟩, fun b hb => ?_⟩
    · have e1 : ((i + 1 : Nat) : Int) = (i : Int) + 1 := by omega
      rw [e1]; exact he'
    · exact S.itr_at (hitr _ _ hs') fun o q => (sb.2 it (Ne.symm hne)).trans q
    · have hb' : b < s.heap.objs.size := by
        have e' : b = e ∨ b = it := by simpa using hb
        rcases e' with z | z
        · rw [z]; exact hel
        · rw [z]; exact hil
      rw [upd_ne (Nat.ne_of_lt hb')]
      exact (hf b hb).1
  done := by
    intro X hP hw hK hc i pins s σ H E I hf st hg
    subst hP hw hK
    obtain ⟨⟨old, he⟩, hit, hne⟩ := st
    obtain ⟨PP, St, Dr, st0, hr, hitr, hfp⟩ := S.draws (A := X.A.in1) I (show X.A.in1.handled = none from I.ok.hd hc) (hf it (by simp)).1 hit hg
    obtain ⟨f0, f1, f2, f3, f4, f5⟩ := hf it (by simp)
    exact wpAny_pyNext_enum_endD Dr he st0 fun h' eb => ⟨rfl, I.turnedL (t' := s.toks) (ch := [e, it]) (fun b o hb q => eb b o (fun z => hb (by simp [z])) q) hf⟩
  self := fun A i s Q E st h => let ⟨⟨_, he⟩, _⟩ := st; wpAny_pyIter_enum he h
theorem Src.fp_not {S : Src} {X : Cx} {pins : List (Addr × Obj)} {σ : L2.St} {H : Hp} {s : Shared} {it c : Addr} {n : Nat} {o : Obj} (I : Inv X pins σ H s) (hl : S.len X.K H n) (hc : s.heap.get? c = some o) (h1 : o.cls ≠ .type "list") (h2 : o.cls ≠ .type "tuple") (hne : c ≠ it) : c ∉ S.fp it := fun hm => by
  cases S with
  | lst a =>
    have e' : c = it ∨ c = a := by simpa [Src.fp] using hm
    rcases e' with z | z
    · exact hne z
    · obtain ⟨xs, hq, _⟩ := hl
      obtain ⟨its, _, p, _⟩ := I.list hq
      obtain ⟨o2, e2, c2, _⟩ := p.isList
      rw [← z, hc] at e2; cases e2; exact h1 c2
  | tup a =>
    have e' : c = it ∨ c = a := by simpa [Src.fp] using hm
    rcases e' with z | z
    · exact hne z
    · obtain ⟨xs, hq, _⟩ := hl
      obtain ⟨its, _, p, _⟩ := I.tuple hq
      obtain ⟨o2, e2, c2, _⟩ := id p
      rw [← z, hc] at e2; cases e2; exact h2 c2
  | txt z => exact hne (by simpa [Src.fp] using hm)
/-- a cell that is younger than the things walked -/
def Src.under (N : Nat) : Src → Prop
  | .lst a => (a : Nat) < N
  | .tup a => (a : Nat) < N
  | .txt _ => True
theorem Src.under_of {S : Src} {X : Cx} {pins : List (Addr × Obj)} {σ : L2.St} {H : Hp} {s : Shared} {n : Nat} (I : Inv X pins σ H s) (hl : S.len X.K H n) : S.under s.heap.objs.size := by
  cases S with
  | lst a => obtain ⟨xs, hq, _⟩ := hl; obtain ⟨its, _, p, _⟩ := I.list hq; exact p.lt
  | tup a => obtain ⟨xs, hq, _⟩ := hl; obtain ⟨its, _, p, _⟩ := I.tuple hq; obtain ⟨o2, e2, _⟩ := id p; exact Heap.lt_size e2
  | txt z => trivial
theorem Src.fp_new {S : Src} {N : Nat} (h : S.under N) {j i : Nat} (hj : j ≠ i) : N + j ∉ S.fp (N + i) := fun hm => by
  cases S with
  | lst a =>
    have e' : N + j = N + i ∨ N + j = a := by simpa [Src.fp] using hm
    have q : (a : Nat) < N := h
    rcases e' with z | z
    · omega
    · rw [← z] at q
      have q' : (N + j : Nat) < N := q
      omega
  | tup a =>
    have e' : N + j = N + i ∨ N + j = a := by simpa [Src.fp] using hm
    have q : (a : Nat) < N := h
    rcases e' with z | z
    · omega
    · rw [← z] at q
      have q' : (N + j : Nat) < N := q
      omega
  | txt z =>
    have e' : N + j = N + i := by simpa [Src.fp] using hm
    omega
theorem Src.fp_mem {S : Src} {it : Addr} : it ∈ S.fp it := by
  cases S <;> simp [Src.fp]
theorem zip_sepS {S1 S2 : Src} {N : Nat} (h1 : S1.under N) (h2 : S2.under N) : ZipSep2 (N + 4) (N + 2) (N + 3) N (N + 1) (S1.fp N) (S2.fp (N + 1)) :=
  { TIz := show (N + 2 : Nat) ≠ N + 4 by omega, TOz := show (N + 3 : Nat) ≠ N + 4 by omega, TITO := show (N + 2 : Nat) ≠ N + 3 by omega,
    TIi1 := show (N + 2 : Nat) ≠ N by omega, mem1 := Src.fp_mem, zf1 := Src.fp_new (i := 0) h1 (by omega), Tf1 := Src.fp_new (i := 0) h1 (by omega),
    TIi2 := show (N + 2 : Nat) ≠ N + 1 by omega, mem2 := Src.fp_mem, zf2 := Src.fp_new (i := 1) h2 (by omega), Tf2 := Src.fp_new (i := 1) h2 (by omega),
    sep1_2 := Src.fp_new (j := 0) (i := 1) h2 (by omega), sep2_1 := Src.fp_new (j := 1) (i := 0) h1 (by omega) }
theorem turn_zipS {P : Program} {w : World} {K : PySem.W.Frag} {elts : List Expr} {kk : Nat} {tpos : Pos} {S1 S2 : Src} {z TI TO i1 i2 : Addr} (D : ZipSep2 z TI TO i1 i2 (S1.fp i1) (S2.fp i2)) :
    Turn P w K (.Tuple elts kk tpos) (Iter2 K S1 S2) [z, TI, TO, i1, i2] z (fun i h => IsZip h z TI TO .none ∧ IsTupOf2 h TI (.ref i1) (.ref i2) ∧ (∃ x y, IsTupOf2 h TO x y) ∧ S1.itr h i1 i ∧ S2.itr h i2 i) where
  mem := by simp
  obj := fun i h st c hc => by
    obtain ⟨hz, hTI, ⟨x, y, hTO⟩, h1, h2⟩ := st
    have e' : c = z ∨ c = TI ∨ c = TO ∨ c = i1 ∨ c = i2 := by simpa using hc
    rcases e' with q | q | q | q | q
    · rw [q]; exact ⟨_, hz, fun v q => nomatch q⟩
    · rw [q]; exact ⟨_, hTI, fun v q => nomatch q⟩
    · rw [q]; exact ⟨_, hTO, fun v q => nomatch q⟩
    · rw [q]; exact S1.itr_obj h1
    · rw [q]; exact S2.itr_obj h2
  keep := fun i h h' st k => by
    obtain ⟨hz, hTI, ⟨x, y, hTO⟩, h1, h2⟩ := st
    exact ⟨k z (by simp) _ hz, k TI (by simp) _ hTI, ⟨x, y, k TO (by simp) _ hTO⟩, S1.itr_at h1 fun o q => k i1 (by simp) o q, S2.itr_at h2 fun o q => k i2 (by simp) o q⟩
  item := by
    intro X hP hw hK hc i pins s σ H E I hf st hg
    subst hP hw hK
    obtain ⟨hz, hTI, ⟨x0, y0, hTO⟩, h1, h2⟩ := st
    obtain ⟨⟨x, hx⟩, ⟨y, hy⟩, n1, n2, hl1, hl2, lt1, lt2⟩ := hg
    obtain ⟨P1, St1, D1, st1, r1, t1, _⟩ := S1.draws (A := X.A.in1) I (show X.A.in1.handled = none from I.ok.hd hc) (hf i1 (by simp)).1 h1 hl1
    obtain ⟨P2, St2, D2, st2, r2, t2, _⟩ := S2.draws (A := X.A.in1) I (show X.A.in1.handled = none from I.ok.hd hc) (hf i2 (by simp)).1 h2 hl2
    have hzl : z < s.heap.objs.size := Heap.lt_size hz
    refine wpAny_pyNext_zipD2_item D D1 D2 hz hTI hTO st1 st2 lt1 lt2 fun u u2 h' tk q1 q2 z' TO' s1' s2' hT hsz hk => ?_
    refine ⟨_, rfl, wpAny_letOwnedTupleGo_zip (s := { s with heap := h', toks := tk }) z' fun h'' z'' sb => ?_⟩
    have hT2 : h''.get? s.heap.objs.size = some { cls := .type "tuple", data := .seq #[u, u2] } := (sb.2 _ (Nat.ne_of_gt hzl)).trans hT
    have new : ObjOk X.prog X.w (upd H s.heap.objs.size (.frz { cls := .type "tuple", data := .seq #[u, u2] } (.tup [x, y]))) h'' s.heap.objs.size (.frz { cls := .type "tuple", data := .seq #[u, u2] } (.tup [x, y])) :=
      ⟨hT2, by show 2 ≤ sizeLine; decide, [u, u2], .cons (r1 i x u hx q1) (.cons (r2 i y u2 hy q2) .nil), ⟨_, hT2, rfl, _, rfl⟩⟩
    have I1 := I.turnedNew (h' := h'') (t' := tk) (ch := [z, TI, TO, i1, i2]) (fun c o hb q => (sb.2 c (fun q' => hb (by simp [q']))).trans (hk c o (fun q' => hb (by simp [q'])) (fun q' => hb (by simp [q'])) (fun q' => hb (by simp [q'])) (fun q' => hb (by simp [q'])) q)) hf (Nat.le_refl _) new
    refine ⟨.ref s.heap.objs.size, _, I1, rfl, ⟨_, x, y, _, rfl, I.hok.fresh (Nat.le_refl _), rfl, rfl, Src.all_of I hx, Src.all_of I hy⟩, ⟨z'', ?_, ⟨u, u2, ?_⟩, ?_, ?_⟩, fun c hcm => ?_⟩
    · exact (sb.2 _ D.TIz).trans (hk _ _ D.TIz D.TITO D.TIi1 D.TIi2 hTI)
    · exact (sb.2 _ D.TOz).trans TO'
    · exact S1.itr_at (t1 _ _ s1') fun o q => (sb.2 _ D.zi1.symm).trans q
    · exact S2.itr_at (t2 _ _ s2') fun o q => (sb.2 _ D.zi2.symm).trans q
    · have hlt : c < s.heap.objs.size := by
        have e' : c = z ∨ c = TI ∨ c = TO ∨ c = i1 ∨ c = i2 := by simpa using hcm
        rcases e' with q | q | q | q | q
        · rw [q]; exact hzl
        · rw [q]; exact Heap.lt_size hTI
        · rw [q]; exact Heap.lt_size hTO
        · rw [q]; obtain ⟨_, e1, _⟩ := S1.itr_obj h1; exact Heap.lt_size e1
        · rw [q]; obtain ⟨_, e2, _⟩ := S2.itr_obj h2; exact Heap.lt_size e2
      rw [upd_ne (Nat.ne_of_lt hlt)]
      exact (hf c hcm).1
  done := by
    intro X hP hw hK hc i pins s σ H E I hf st hg
    subst hP hw hK
    obtain ⟨hz, hTI, ⟨x0, y0, hTO⟩, h1, h2⟩ := st
    obtain ⟨n1, n2, hl1, hl2, hi⟩ := hg
    obtain ⟨P1, St1, D1, st1, r1, t1, _⟩ := S1.draws (A := X.A.in1) I (show X.A.in1.handled = none from I.ok.hd hc) (hf i1 (by simp)).1 h1 hl1
    obtain ⟨P2, St2, D2, st2, r2, t2, _⟩ := S2.draws (A := X.A.in1) I (show X.A.in1.handled = none from I.ok.hd hc) (hf i2 (by simp)).1 h2 hl2
    exact wpAny_pyNext_zipD2_end D D1 D2 hz hTI hTO st1 st2 (by omega) (by omega) (by omega) fun h' tk hk => ⟨rfl, I.turnedL (t' := tk) (ch := [z, TI, TO, i1, i2]) (fun c o hb q =>
      hk c o (fun q' => hb (by simp [q'])) (fun q' => hb (by simp [q'])) (fun q' => hb (by simp [q'])) (fun q' => hb (by simp [q'])) q) hf⟩
  self := fun A i s Q E st h => wpAny_pyIter_zip st.1 h

set_option maxHeartbeats 1000000 in
theorem meets_enum1 {v : Value} {o : Obj} {φ : Heap → Prop} (B : Begins v o φ) :
    Meets (Builtin.«enumerate.__new__» ⟨[.type "enumerate", v], []⟩) (fun _ R s => φ s.heap ∧
      R (.ok (.ret (.ref (s.heap.push o).objs.size))) { s with heap := (s.heap.push o).push { cls := .type "enumerate", data := .fields #[.none, .bool false, .ref s.heap.objs.size, rawInt 0, .none, .none] } }) :=
  .of_wp fun prog w A R s h => by
    obtain ⟨hp, g, d, tk, os⟩ := s; obtain ⟨h1, h⟩ := h
    have hsub := sub_enumerate
    have q1 : ∀ {A' : Around} {E : Value → Shared → Prop} {Q : Value → Shared → Prop}, Q (.ref hp.objs.size) ⟨hp.push o, g, d, tk, os⟩ → wpAny (model prog w) A' (pyIter v) Q E ⟨hp, g, d, tk, os⟩ :=
      fun q => B.iter prog w _ _ ⟨hp, g, d, tk, os⟩ _ h1 q
    wp_walk using q1
    refine wpAny_stack_any fun st => wpAny_pure ?_
    split
    · rename_i c _ _ _ _ _
      cases (c == Value.type "enumerate")
      · wp_walk using q1
        exact ⟨_, rfl, h⟩
      · wp_walk using q1
        exact ⟨_, rfl, h⟩
    · wp_walk using q1
      exact ⟨_, rfl, h⟩
theorem enum_begins1 {prog : Program} {w : World} {A : Around} {E : Value → Shared → Prop} {s : Shared} {v : Value} {o : Obj} {φ : Heap → Prop} {Q : Value → Shared → Prop} (B : Begins v o φ) (h1 : φ s.heap)
    (h : ∀ h', IsEnum h' (s.heap.objs.size + 1) s.heap.objs.size 0 .none → h'.get? s.heap.objs.size = some o → h'.objs.size = s.heap.objs.size + 2 →
      (∀ b o, s.heap.get? b = some o → h'.get? b = some o) → Q (.ref (s.heap.objs.size + 1)) { s with heap := h' }) :
    wpAny (model prog w) A (call (.type "enumerate") [v]) Q E s := by
  refine callType_new F.called_enumerate (by decide) (F.typeCall_enumerate_1 _) (F.newCall_enumerate_1 _) (fun obj => F.args_object_init_2 obj _) F.entry_enumerate_new
    (meets_enum1 B) ⟨h1, ?_⟩
  have hz : (s.heap.push o).objs.size = s.heap.objs.size + 1 := Heap.size_push ..
  show _ ∧ _
  rw [hz]
  have he : IsEnum ((s.heap.push o).push { cls := .type "enumerate", data := .fields #[.none, .bool false, .ref s.heap.objs.size, rawInt 0, .none, .none] }) (s.heap.objs.size + 1) s.heap.objs.size 0 .none := by
    have := Heap.get?_push_size (s.heap.push o) (o := { cls := .type "enumerate", data := .fields #[.none, .bool false, .ref s.heap.objs.size, rawInt 0, .none, .none] }) rfl
    rw [hz] at this; exact this
  refine ⟨⟨_, he, rfl⟩, h _ he (Heap.get?_push_of_some _ (Heap.get?_push_size _ B.free)) (by rw [Heap.size_push, hz]) fun b o x => Heap.get?_push_of_some _ (Heap.get?_push_of_some _ x)⟩
end Sm


set_option Elab.async false
set_option linter.all false
set_option maxRecDepth 100000
set_option maxHeartbeats 1000000
/-! Sm7: argument lists, displays, subscripts, slices, iterables. -/
namespace Sm
open PySem PySem.Spec L2

/-! ### argument lists -/
def BorL (K : PySem.W.Frag) (mg : Str → Option Value) (W : Wd) : List D → List V → Prop
  | [], vs => vs = []
  | d :: ds, vs => ∃ v r, vs = v :: r ∧ Bor K mg W d v ∧ BorL K mg W ds r
theorem BorL.ext {K : PySem.W.Frag} {mg : Str → Option Value} {W W' : Wd} (e : Ext W W') : ∀ {ds : List D} {vs : List V}, BorL K mg W ds vs → BorL K mg W' ds vs
  | [], _, h => h
  | d :: ds, vs, ⟨v, r, ev, h1, h2⟩ => ⟨v, r, ev, h1.ext e, BorL.ext e h2⟩
theorem BorL.of {K : PySem.W.Frag} {mg : Str → Option Value} {W : Wd} : ∀ {ds : List D} {vs : List V}, RpL K mg W.as W.G ds vs → BorL K mg W ds vs
  | [], _, h => by
    simp only [RpL] at h
    exact h
  | d :: ds, vs, h => by
    simp only [RpL] at h
    obtain ⟨v, r, ev, h1, h2⟩ := h
    exact ⟨v, r, ev, .inl h1, BorL.of h2⟩
def TBo (C : Cn) (m : Lx) : TA := fun σ H Q => ∃ env W st, W.H = H ∧ SR C env W st σ ∧
  Out C σ W (m env st) fun ds st' => ∀ vs W', Ext W W' → C.ok W' st' → BorL C.X.K C.X.mg W' ds vs → Q vs W'.H
/-- arguments that are only looked at -/
def SB (C : Cn) (es : List Expr) (m : Lx) : Prop := PA C.X es (TBo C m)
@[simp] def lNil : Lx := fun _ => ret []
@[simp] def lCons (m : Ex) (r : Lx) : Lx := fun env => bnd (m env) fun d => bnd (r env) fun ds => ret (d :: ds)
/-- the length of what an argument list gives -/
def Ln (m : Lx) (n : Nat) : Prop := ∀ env st ds st', m env st = .ok ds st' → ds.length = n
theorem ln_nil : Ln lNil 0 := fun _ _ _ _ h => by cases h; rfl
theorem ln_cons {m : Ex} {r : Lx} {n : Nat} (h : Ln r n) : Ln (lCons m r) (n + 1) := fun env st ds st' e => by
  obtain ⟨d, s1, _, e⟩ := bnd_ok e
  obtain ⟨ds', s2, e2, e⟩ := bnd_ok e
  cases e
  rw [List.length_cons, h _ _ _ _ e2]
section
variable {C : Cn} {κ : Kd} {e : Expr} {es : List Expr} {me : Ex} {ml : Lx} {pos : Pos}
theorem PA.imp {X : Cx} {e : List Expr} {t u : TA} (h : PA X e t) (q : ∀ σ H Q, u σ H Q → t σ H Q) : PA X e u := ⟨fun pos pins s σ H Q I z => h.run pos pins s σ H Q I (q σ H Q z)⟩
theorem SA.sb (h : SA C es ml) : SB C es ml := PA.imp h fun σ H Q ⟨env, W, st, e, R, o⟩ => ⟨env, W, st, e, R, o.imp fun ds st' q vs W' e' k' r => q vs W' e' k' (.of r)⟩
theorem sa_nil : SA C [] lNil := PA.imp pa_nil fun σ H Q ⟨env, W, st, e, R, o⟩ => by
  subst e
  exact (show (∀ vs W', Ext W W' → C.ok W' st → RpL C.X.K C.X.mg W'.as W'.G [] vs → Q vs W'.H) from o) [] W (.refl W) R.ok (by simp [RpL])
theorem sb_nil : SB C [] lNil := SA.sb sa_nil
theorem sa_cons (h : SE C .froz e me) (hr : SA C es ml) (hs : starEach (e :: es) C.X.env = (false, eval e C.X.env) :: starEach es C.X.env := by rfl) : SA C (e :: es) (lCons me ml) :=
  PA.imp (pa_cons h hr hs) fun σ H Q ⟨env, W, st, e, R, o⟩ => by
    refine ⟨env, W, st, e, R, (Out.bnd o).imp fun d st1 o1 v W1 e1 k1 r1 => ⟨env, W1, st1, rfl, R.up e1 k1, ((Out.bnd o1).up e1).imp fun ds st2 q vs W2 e2 k2 r2 => ?_⟩⟩
    refine (show (∀ vs W', Ext W W' → C.ok W' st2 → RpL C.X.K C.X.mg W'.as W'.G (d :: ds) vs → Q vs W'.H) from q) _ W2 (e1.trans e2) k2 ?_
    simp only [RpL]
    exact ⟨v, vs, rfl, Rp.ext e2 r1, r2⟩
theorem sb_cons (h : SE C κ e me) (hr : SB C es ml) (hs : starEach (e :: es) C.X.env = (false, eval e C.X.env) :: starEach es C.X.env := by rfl) : SB C (e :: es) (lCons me ml) :=
  PA.imp (pa_cons h hr hs) fun σ H Q ⟨env, W, st, e, R, o⟩ => by
    refine ⟨env, W, st, e, R, (Out.bnd o).imp fun d st1 o1 v W1 e1 k1 r1 => ⟨env, W1, st1, rfl, R.up e1 k1, ((Out.bnd o1).up e1).imp fun ds st2 q vs W2 e2 k2 r2 => ?_⟩⟩
    exact (show (∀ vs W', Ext W W' → C.ok W' st2 → BorL C.X.K C.X.mg W' (d :: ds) vs → Q vs W'.H) from q) _ W2 (e1.trans e2) k2 ⟨v, vs, rfl, (r1.bor).ext e2, r2⟩
/-! ### displays -/
@[simp] def eTup (m : Lx) : Ex := fun env => bnd (m env) fun ds => ret (.tup ds)
@[simp] def eLst (m : Lx) : Ex := fun env => bnd (m env) fun ds => ret (.lst ds)
theorem out_ln {α : Type} {σ : L2.St} {W : Wd} {env : En} {st : Store} {n : Nat} {f : List D → M α} {k : α → Store → Prop} (hl : Ln ml n) (o : Out C σ W (bnd (ml env) f st) k) : Out C σ W (ml env st) fun ds st' => ds.length = n ∧ Out C σ W (f ds st') k := by
  have o' := Out.bnd o
  cases q : ml env st with
  | ok ds st' => rw [q] at o'; exact ⟨hl _ _ _ _ q, o'⟩
  | exc c fs s => rw [q] at o'; exact o'
  | stuck => rw [q] at o'; exact o'
theorem se_tup {n : Nat} {x1} (h : SA C es ml) (hl : Ln ml n) (hn : n ≤ line := by decide) : SE C .froz (.Tuple es x1 pos) (eTup ml) :=
  PE.imp (pe_tupF h) fun σ H Q ⟨env, W, st, e, R, o⟩ => by
    subst e
    refine ⟨env, W, st, rfl, R, (out_ln hl o).imp fun ds st1 ⟨hz, o1⟩ vs W1 e1 k1 r1 => ⟨by rw [← r1.len, hz, ← line_eq]; exact hn, fun p ob np no => ?_⟩⟩
    exact (show (∀ v W', Ext W W' → C.ok W' st1 → C.rk .froz W W' (.tup ds) v → Q v W'.H) from o1) _ (W1.newT p ob vs) (e1.trans (newT_ext k1 np)) (newT_ok k1 np) (newT_rp k1 np no r1)
theorem se_lst {n : Nat} (h : SA C es ml) (hl : Ln ml n) (hn : n ≤ line := by decide) : SE C .fresh (.List es pos) (eLst ml) :=
  PE.imp (pe_lst h) fun σ H Q ⟨env, W, st, e, R, o⟩ => by
    subst e
    refine ⟨env, W, st, rfl, R, (out_ln hl o).imp fun ds st1 ⟨hz, o1⟩ vs W1 e1 k1 r1 => ⟨by rw [← r1.len, hz, ← line_eq]; exact hn, fun p np => ?_⟩⟩
    exact (show (∀ v W', Ext W W' → C.ok W' st1 → C.rk .fresh W W' (.lst ds) v → Q v W'.H) from o1) _ (W1.new p (.lst vs)) (e1.trans (new_ext np)) (new_ok k1 np) (RK.down (κ := .fresh) e1 (new_lst k1 np r1))
end

/-! ### subscripts -/
def chD (c : Nat) : D := .str ⟨#[c]⟩
def ixD : D → D → M D
  | .lst xs, .int i => lift (atI xs i)
  | .tup xs, .int i => lift (atI xs i)
  | .scr xs, .int i => lift (atI xs i)
  | .str z, .int i => lift (if z.length ≤ line then (atI z.cps.toList i).map chD else none)
  | .obj n, .int i => fun st => match st[n]? with
    | some xs => lift (atI xs i) st
    | none => .stuck
  | _, _ => halt
theorem RpL.atI {K : PySem.W.Frag} {mg : Str → Option Value} {as : List Addr} {G : Hp} {ds : List D} {vs : List V} {i : Int} {d : D} (r : RpL K mg as G ds vs) (h : atI ds i = some d) : ∃ v, L2.atI vs i = some v ∧ Rp K mg as G d v := by
  unfold L2.atI at h ⊢
  rw [← r.len]
  cases q : ixN ds.length i with
  | none => rw [q] at h; cases h
  | some j =>
    rw [q] at h
    exact RpL.get' (i := j) r h
section
variable {C : Cn} {κa κb : Kd} {a b : Expr} {ma mb : Ex} {pos : Pos}
theorem ix_go {σ : L2.St} {W : Wd} {st : Store} {d1 d2 : D} {x y : V} {Q : VK} (k : C.ok W st) (b1 : Bor C.X.K C.X.mg W d1 x) (b2 : Bor C.X.K C.X.mg W d2 y)
    (o : Out C σ W (ixD d1 d2 st) fun d st' => ∀ z W', Ext W W' → C.ok W' st' → C.rk .froz W W' d z → Q z W'.H) : rIx C.X.K x y W.H Q := by
  cases d2 with
  | int i =>
    have e2 := b2.int
    subst e2
    cases d1 with
    | lst xs =>
      obtain ⟨p, vs, e1, hp, l⟩ := b1.lst k
      have o' : Out C σ W (lift (atI xs i) st) _ := o
      cases q : atI xs i with
      | none => rw [q] at o'; exact False.elim o'
      | some d =>
        rw [q] at o'
        obtain ⟨v, h1, h2⟩ := l.atI q
        exact .inl ⟨p, vs, i, v, e1, rfl, .inl (.inl hp), h1, o' v W (.refl W) k h2⟩
    | tup xs =>
      obtain ⟨p, vs, e1, hp, l⟩ := b1.tup k
      have o' : Out C σ W (lift (atI xs i) st) _ := o
      cases q : atI xs i with
      | none => rw [q] at o'; exact False.elim o'
      | some d =>
        rw [q] at o'
        obtain ⟨v, h1, h2⟩ := l.atI q
        exact .inr (.inl ⟨p, vs, i, v, e1, rfl, hp, h1, o' v W (.refl W) k h2⟩)
    | scr xs =>
      obtain ⟨p, vs, e1, hp, l⟩ := b1.scr k
      have o' : Out C σ W (lift (atI xs i) st) _ := o
      cases q : atI xs i with
      | none => rw [q] at o'; exact False.elim o'
      | some d =>
        rw [q] at o'
        obtain ⟨v, h1, h2⟩ := l.atI q
        exact .inl ⟨p, vs, i, v, e1, rfl, hp, h1, o' v W (.refl W) k h2⟩
    | str z =>
      have e1 := b1.str
      subst e1
      have o' : Out C σ W (lift (if z.length ≤ line then (atI z.cps.toList i).map chD else none) st) _ := o
      by_cases hz : z.length ≤ line
      · rw [if_pos hz] at o'
        cases q : atI z.cps.toList i with
        | none => rw [q] at o'; exact False.elim o'
        | some c =>
          rw [q] at o'
          exact .inr (.inr ⟨z, i, c, rfl, rfl, by rw [← line_eq]; exact hz, q, o' _ W (.refl W) k (by simp [chD, Cn.rk, RK, Rp])⟩)
      · rw [if_neg hz] at o'; exact False.elim o'
    | obj n =>
      obtain ⟨p, e1, hp⟩ := b1.obj
      have o' : Out C σ W (match st[n]? with | some xs => lift (atI xs i) st | none => .stuck) _ := o
      cases hn : st[n]? with
      | none => rw [hn] at o'; exact False.elim o'
      | some xs =>
        rw [hn] at o'
        obtain ⟨p', vs, h1, h2, h3⟩ := k.cel n xs hn
        rw [hp] at h1
        cases h1
        have o2 : Out C σ W (lift (atI xs i) st) _ := o'
        cases q : atI xs i with
        | none => rw [q] at o2; exact False.elim o2
        | some d =>
          rw [q] at o2
          obtain ⟨v, h4, h5⟩ := h3.atI q
          exact .inl ⟨p, vs, i, v, e1, rfl, .inl (.inl h2), h4, o2 v W (.refl W) k h5⟩
    | _ => exact False.elim (show False from o)
  | _ => cases d1 <;> exact False.elim (show False from o)
theorem se_ix (ha : SE C κa a ma) (hb : SE C κb b mb) (hs : PlainIx b) : SE C .froz (.Subscript a b pos) (eBin ixD ma mb) :=
  PE.imp (pe_ix ix_seq ha hb hs) fun σ H Q ⟨env, W, st, e, R, o⟩ => by
    subst e
    refine ⟨env, W, st, rfl, R, (Out.bnd o).imp fun d1 st1 o1 v W1 e1 k1 r1 => ⟨env, W1, st1, rfl, R.up e1 k1, ((Out.bnd o1).up e1).imp fun d2 st2 o2 u W2 e2 k2 r2 => ?_⟩⟩
    exact ix_go k2 (r1.bor.ext e2) r2.bor ((o2.up (e1.trans e2)).imp fun d st' q z W' e' k' r' => q z W' ((e1.trans e2).trans e') k' r')
end

/-! ### slices -/
abbrev Px := En → M (Option Int)
def pNo : Px := fun _ => ret none
def pAt (m : Ex) : Px := fun env => bnd (m env) fun d => match d with
  | .int i => ret (some i)
  | _ => halt
def TOo (C : Cn) (m : Px) : TO := fun σ H Q => ∃ env W st, W.H = H ∧ SR C env W st σ ∧ Out C σ W (m env st) fun o st' => ∀ W', Ext W W' → C.ok W' st' → Q o W'.H
def SO (C : Cn) (e : Option Expr) (m : Px) : Prop := PO C.X e (TOo C m)
/-- the items of xs[lo:hi] -/
def cut {α : Type} (xs : List α) (lo hi : Option Int) : List α := (xs.drop (HT.sIx xs.length 0 lo)).take (HT.sIx xs.length xs.length hi - HT.sIx xs.length 0 lo)
theorem RpL.cut {K : PySem.W.Frag} {mg : Str → Option Value} {as : List Addr} {G : Hp} {ds : List D} {vs : List V} {lo hi : Option Int} (r : RpL K mg as G ds vs) : RpL K mg as G (Sm.cut ds lo hi) (cutV vs lo hi) := by
  unfold Sm.cut cutV
  rw [← r.len]
  exact (r.drop _).take _
theorem cut_all {α : Type} {xs : List α} {lo hi : Option Int} (h : HT.sIx xs.length 0 lo = 0 ∧ HT.sIx xs.length xs.length hi = xs.length) : cut xs lo hi = xs := by
  unfold cut
  rw [h.1, h.2]
  simp
def slD (d : D) (lo hi : Option Int) : Option D := match d with
  | .tup xs => some (.tup (cut xs lo hi))
  | .str z => if z.length ≤ line then some (.str (cutS z lo hi)) else none
  | _ => none
def slL (d : D) (lo hi : Option Int) : Option D := match d with
  | .lst xs => some (.lst (cut xs lo hi))
  | .scr xs => some (.lst (cut xs lo hi))
  | _ => none
def eSl (g : D → Option Int → Option Int → Option D) (a : Ex) (lo hi : Px) : Ex := fun env => bnd (a env) fun d => bnd (lo env) fun l => bnd (hi env) fun h => lift (g d l h)
section
variable {C : Cn} {κ : Kd} {a e : Expr} {ma me : Ex} {lo hi : Option Expr} {ml mh : Px} {pos p2 : Pos}
theorem PO.imp {X : Cx} {e : Option Expr} {t u : TO} (h : PO X e t) (q : ∀ σ H Q, u σ H Q → t σ H Q) : PO X e u := ⟨fun pins s σ H Q I z => h.run pins s σ H Q I (q σ H Q z)⟩
theorem so_no : SO C none pNo := PO.imp po_none fun σ H Q ⟨env, W, st, e, R, o⟩ => by
  subst e
  exact (show (∀ W', Ext W W' → C.ok W' st → Q none W'.H) from o) W (.refl W) R.ok
theorem so_at (h : SE C κ e me) : SO C (some e) (pAt me) := PO.imp (po_some h) fun σ H Q ⟨env, W, st, e, R, o⟩ => by
  refine ⟨env, W, st, e, R, (Out.bnd o).imp fun d st1 o1 v W1 e1 k1 r1 => ?_⟩
  cases d with
  | int i =>
    have := r1.bor.int
    exact ⟨i, this, (show (∀ W', Ext W W' → C.ok W' st1 → Q (some i) W'.H) from o1) W1 e1 k1⟩
  | _ => exact False.elim (show False from o1)
theorem se_sl (ha : SE C κ a ma) (hl : SO C lo ml) (hh : SO C hi mh) : SE C .froz (.Subscript a (.Slice lo hi none p2) pos) (eSl slD ma ml mh) :=
  PE.imp (pe_slice (sl_tupF.or sl_str) ha hl hh) fun σ H Q ⟨env, W, st, e, R, o⟩ => by
    subst e
    refine ⟨env, W, st, rfl, R, (Out.bnd o).imp fun d st1 o1 v W1 e1 k1 r1 => ⟨env, W1, st1, rfl, R.up e1 k1, ((Out.bnd o1).up e1).imp fun l st2 o2 W2 e2 k2 => ⟨env, W2, st2, rfl, R.up (e1.trans e2) k2, ((Out.bnd o2).up (e1.trans e2)).imp fun u st3 o3 W3 e3 k3 => ?_⟩⟩⟩
    have e03 := (e1.trans e2).trans e3
    have b3 := r1.bor.ext (e2.trans e3)
    cases d with
    | tup xs =>
      have q : ∀ z W', Ext W W' → C.ok W' st3 → C.rk .froz W W' (.tup (cut xs l u)) z → Q z W'.H := o3
      have f3 : C.rp W3 (.tup xs) v := by
        rcases b3 with h | ⟨_, _, _, h⟩
        · exact h
        · exact h.elim
      obtain ⟨p, vs, ev, hp, r⟩ := b3.tup k3
      refine .inl ⟨p, vs, ev, hp, fun h => ?_, fun p' ob np no => q _ (W3.newT p' ob (cutV vs l u)) (e03.trans (newT_ext k3 np)) (newT_ok k3 np) (newT_rp k3 np no r.cut)⟩
      have := q v W3 e03 k3 (by rw [cut_all (by rw [r.len]; exact h)]; exact f3)
      rw [ev] at this
      exact this
    | str z =>
      have e1 := b3.str
      subst e1
      have o' : Out C σ W (lift (if z.length ≤ line then some (D.str (cutS z l u)) else none) st3) _ := o3
      by_cases hz : z.length ≤ line
      · rw [if_pos hz] at o'
        exact .inr ⟨z, rfl, by rw [← line_eq]; exact hz, o' _ W3 e03 k3 (by simp [Cn.rk, RK, Rp])⟩
      · rw [if_neg hz] at o'; exact False.elim o'
    | _ => exact False.elim (show False from o3)
theorem se_slL (ha : SE C κ a ma) (hl : SO C lo ml) (hh : SO C hi mh) : SE C .fresh (.Subscript a (.Slice lo hi none p2) pos) (eSl slL ma ml mh) :=
  PE.imp (pe_slice sl_list ha hl hh) fun σ H Q ⟨env, W, st, e, R, o⟩ => by
    subst e
    refine ⟨env, W, st, rfl, R, (Out.bnd o).imp fun d st1 o1 v W1 e1 k1 r1 => ⟨env, W1, st1, rfl, R.up e1 k1, ((Out.bnd o1).up e1).imp fun l st2 o2 W2 e2 k2 => ⟨env, W2, st2, rfl, R.up (e1.trans e2) k2, ((Out.bnd o2).up (e1.trans e2)).imp fun u st3 o3 W3 e3 k3 => ?_⟩⟩⟩
    have e03 := (e1.trans e2).trans e3
    have b3 := r1.bor.ext (e2.trans e3)
    have fin : ∀ {xs : List D} {vs : List V} {p : Addr}, v = .ref p → SqL C.X.K W3.H p vs → RpL C.X.K C.X.mg W3.as W3.G xs vs → (∀ z W', Ext W W' → C.ok W' st3 → C.rk .fresh W W' (.lst (cut xs l u)) z → Q z W'.H) → rSlL C.X.K v l u W3.H Q :=
      fun ev hp r q => ⟨_, _, ev, hp, fun p' np => q _ (W3.new p' (.lst (cutV _ l u))) (e03.trans (new_ext np)) (new_ok k3 np) (RK.down (κ := .fresh) e03 (new_lst k3 np r.cut))⟩
    cases d with
    | lst xs =>
      obtain ⟨p, vs, ev, hp, r⟩ := b3.lst k3
      exact fin ev (.inl (.inl hp)) r o3
    | scr xs =>
      obtain ⟨p, vs, ev, hp, r⟩ := b3.scr k3
      exact fin ev hp r o3
    | _ => exact False.elim (show False from o3)
end

/-! ### iterables -/
def chs (z : Str) : List D := z.cps.toList.map chD
/-- the items of a thing -/
def seqD : D → Option (List D)
  | .lst xs => some xs
  | .tup xs => some xs
  | .scr xs => some xs
  | .str z => some (chs z)
  | _ => none
/-- what S holds -/
def SrcD (C : Cn) (W : Wd) (ds : List D) : Src → Prop
  | .lst a => ∃ xs, SqL C.X.K W.G a xs ∧ RpL C.X.K C.X.mg W.as W.G ds xs
  | .tup a => ∃ xs, SqT C.X.K W.G a xs ∧ RpL C.X.K C.X.mg W.as W.G ds xs
  | .txt z => ds = chs z
def Src.ofV (v : V) : Src → Prop
  | .lst a => v = .ref a
  | .tup a => v = .ref a
  | .txt z => v = .str z
section
variable {C : Cn} {W W' : Wd} {st : Store} {ds : List D} {S : Src} {d : D} {v : V} {i : Nat}
theorem Src.ofV_val {u : Value} (h : S.ofV v) (r : RelV v u) : S.val u := by
  cases S with
  | lst a => cases h; exact r
  | tup a => cases h; exact r
  | txt z => cases h; exact r
theorem src_of (h : C.rp W d v) (hs : seqD d = some ds) : ∃ S : Src, SrcD C W ds S ∧ S.ofV v := by
  cases d with
  | lst xs =>
    cases hs
    have h' : Rp _ _ _ _ (.lst ds) v := h
    simp only [Rp] at h'
    obtain ⟨a, vs, ev, sq, l⟩ := h'
    exact ⟨.lst a, ⟨vs, .inl (.inl sq), l⟩, ev⟩
  | scr xs =>
    cases hs
    have h' : Rp _ _ _ _ (.scr ds) v := h
    simp only [Rp] at h'
    obtain ⟨a, vs, ev, sq, l⟩ := h'
    exact ⟨.lst a, ⟨vs, sq, l⟩, ev⟩
  | tup xs =>
    cases hs
    have h' : Rp _ _ _ _ (.tup ds) v := h
    simp only [Rp] at h'
    obtain ⟨a, vs, ev, sq, _, l⟩ := h'
    exact ⟨.tup a, ⟨vs, sq, l⟩, ev⟩
  | str z =>
    cases hs
    have h' : Rp _ _ _ _ (.str z) v := h
    simp only [Rp] at h'
    exact ⟨.txt z, rfl, h'⟩
  | _ => cases hs
theorem SrcD.lat (h : SrcD C W ds S) (l : Lat W W') : SrcD C W' ds S := by
  cases S with
  | lst a => obtain ⟨xs, h1, h2⟩ := h; exact ⟨xs, SqL.up l.g h1, RpL.up l.pre l.g _ _ h2⟩
  | tup a => obtain ⟨xs, h1, h2⟩ := h; exact ⟨xs, SqT.up l.g h1, RpL.up l.pre l.g _ _ h2⟩
  | txt z => exact h
theorem SrcD.len (h : SrcD C W ds S) (k : C.ok W st) : S.len C.X.K W.H ds.length := by
  cases S with
  | lst a => obtain ⟨xs, h1, h2⟩ := h; exact ⟨xs, SqL.up k.sub h1, h2.len.symm⟩
  | tup a => obtain ⟨xs, h1, h2⟩ := h; exact ⟨xs, SqT.up k.sub h1, h2.len.symm⟩
  | txt z =>
    have h' : ds = chs z := h
    subst h'
    show z.cps.size = (chs z).length
    simp [chs]
theorem SrcD.has (h : SrcD C W ds S) (k : C.ok W st) (hi : i < ds.length) : ∃ v, S.has C.X.K W.H i v := by
  cases S with
  | lst a => obtain ⟨xs, h1, h2⟩ := h; exact ⟨_, xs, SqL.up k.sub h1, List.getElem?_eq_getElem (by rw [← h2.len]; exact hi)⟩
  | tup a => obtain ⟨xs, h1, h2⟩ := h; exact ⟨_, xs, SqT.up k.sub h1, List.getElem?_eq_getElem (by rw [← h2.len]; exact hi)⟩
  | txt z =>
    have h' : ds = chs z := h
    subst h'
    have hl : i < z.cps.size := by simpa [chs] using hi
    exact ⟨_, z.cps[i], by simp [hl], rfl⟩
theorem SrcD.all (h : SrcD C W ds S) (k : C.ok W st) (q : S.all C.X.K W.H i v) (hi : i < ds.length) : ∃ d, ds[i]? = some d ∧ C.rp W d v := by
  cases S with
  | lst a => obtain ⟨xs, h1, h2⟩ := h; exact RpL.get h2 (q xs (SqL.up k.sub h1))
  | tup a => obtain ⟨xs, h1, h2⟩ := h; exact RpL.get h2 (q xs (SqT.up k.sub h1))
  | txt z =>
    have h' : ds = chs z := h
    subst h'
    obtain ⟨c, hc, rfl⟩ := q
    exact ⟨chD c, by simp [chs, hc], by simp [chD, Cn.rp, Rp]⟩
/-- a plain walk -/
def Src.it (K : PySem.W.Frag) : Src → It
  | .lst a => Itl K a
  | .tup a => Itt K a
  | .txt z => Its z
theorem SrcD.walk (h : SrcD C W ds S) : WalkD C W (S.it C.X.K) ds := by
  cases S with
  | lst a =>
    obtain ⟨xs, h1, h2⟩ := h
    refine ⟨_, _, h2.len ▸ walk_list (xs := xs), fun W' st l k => SqL.up k.sub (SqL.up l.g h1), fun i W' st x H' hi l k y => ?_⟩
    obtain ⟨e, y⟩ := y
    subst e
    obtain ⟨d, h3, h4⟩ := RpL.get (RpL.up l.pre l.g _ _ h2) y
    exact ⟨W', d, rfl, .refl W', k, h3, h4⟩
  | tup a =>
    obtain ⟨xs, h1, h2⟩ := h
    refine ⟨_, _, h2.len ▸ walk_tup (xs := xs), fun W' st l k => SqT.up k.sub (SqT.up l.g h1), fun i W' st x H' hi l k y => ?_⟩
    obtain ⟨e, y⟩ := y
    subst e
    obtain ⟨d, h3, h4⟩ := RpL.get (RpL.up l.pre l.g _ _ h2) y
    exact ⟨W', d, rfl, .refl W', k, h3, h4⟩
  | txt z =>
    have h' : ds = chs z := h
    subst h'
    have hl : (chs z).length = z.cps.size := by simp [chs]
    refine ⟨_, _, hl ▸ walk_str (z := z), fun W' st l k => trivial, fun i W' st x H' hi l k y => ?_⟩
    obtain ⟨e, c, hc, rfl⟩ := y
    subst e
    exact ⟨W', chD c, rfl, .refl W', k, by simp [chs, hc], by simp [chD, Cn.rp, Rp]⟩
def enumD : Nat → List D → List D
  | _, [] => []
  | i, d :: ds => .tup [.int i, d] :: enumD (i + 1) ds
theorem enumD_get : ∀ (ds : List D) (i j : Nat), (enumD j ds)[i]? = (ds[i]?).map fun d => .tup [.int ((j + i : Nat) : Int), d]
  | [], i, j => by simp [enumD]
  | d :: ds, 0, j => by simp [enumD]
  | d :: ds, i + 1, j => by
    have := enumD_get ds i (j + 1)
    simp only [enumD, List.getElem?_cons_succ, this]
    congr 1
    funext d
    rw [show j + 1 + i = j + (i + 1) by omega]
theorem enumD_len : ∀ (ds : List D) (j : Nat), (enumD j ds).length = ds.length
  | [], _ => rfl
  | d :: ds, j => by simp [enumD, enumD_len ds (j + 1)]
theorem SrcD.enum (h : SrcD C W ds S) : WalkD C W (Iter1 C.X.K S) (enumD 0 ds) := by
  refine ⟨fun H => S.len C.X.K H ds.length ∧ ∀ i, i < ds.length → ∃ v, S.has C.X.K H i v, fun i H v H' => ∃ T x o, v = .ref T ∧ H T = none ∧ o.dict = none ∧ H' = upd H T (.frz o (.tup [.int (i : Nat), x])) ∧ S.all C.X.K H i x, ?_, fun W' st l k => ⟨(h.lat l).len k, fun i hi => (h.lat l).has k hi⟩, fun i W' st x H' hi l k y => ?_⟩
  · rw [enumD_len]
    exact ⟨fun i H hi q => ⟨q.2 i hi, ds.length, q.1, hi⟩, fun H q => q.1, fun i H x H' hi q y => y⟩
  · rw [enumD_len] at hi
    obtain ⟨T, x', o, e1, hT, ho, e2, ha⟩ := y
    subst e1 e2
    obtain ⟨d, h1, h2⟩ := (h.lat l).all k ha hi
    refine ⟨W'.newT T o [.int (i : Nat), x'], .tup [.int i, d], rfl, newT_ext k hT, newT_ok k hT, ?_, newT_rp k hT ho ?_⟩
    · rw [enumD_get, h1]
      simp
    · simp only [RpL, Rp]
      exact ⟨_, _, rfl, rfl, _, _, rfl, h2, rfl⟩
def zipD (xs ys : List D) : List D := List.zipWith (fun a b => .tup [a, b]) xs ys
theorem SrcD.zip {es : List D} {S2 : Src} (h : SrcD C W ds S) (h2 : SrcD C W es S2) : WalkD C W (Iter2 C.X.K S S2) (zipD ds es) := by
  have hl : (zipD ds es).length = min ds.length es.length := by simp [zipD]
  refine ⟨fun H => S.len C.X.K H ds.length ∧ S2.len C.X.K H es.length ∧ (∀ i, i < ds.length → ∃ v, S.has C.X.K H i v) ∧ ∀ i, i < es.length → ∃ v, S2.has C.X.K H i v,
    fun i H v H' => ∃ T x y o, v = .ref T ∧ H T = none ∧ o.dict = none ∧ H' = upd H T (.frz o (.tup [x, y])) ∧ S.all C.X.K H i x ∧ S2.all C.X.K H i y, ?_,
    fun W' st l k => ⟨(h.lat l).len k, (h2.lat l).len k, fun i hi => (h.lat l).has k hi, fun i hi => (h2.lat l).has k hi⟩, fun i W' st x H' hi l k y => ?_⟩
  · rw [hl]
    exact ⟨fun i H hi q => ⟨q.2.2.1 i (by omega), q.2.2.2 i (by omega), _, _, q.1, q.2.1, by omega, by omega⟩, fun H q => ⟨_, _, q.1, q.2.1, rfl⟩, fun i H x H' hi q y => y⟩
  · rw [hl] at hi
    obtain ⟨T, x', y', o, e1, hT, ho, e2, ha, hb⟩ := y
    subst e1 e2
    obtain ⟨d, h3, h4⟩ := (h.lat l).all k ha (by omega)
    obtain ⟨d', h5, h6⟩ := (h2.lat l).all k hb (by omega)
    refine ⟨W'.newT T o [x', y'], .tup [d, d'], rfl, newT_ext k hT, newT_ok k hT, ?_, newT_rp k hT ho ?_⟩
    · simp [zipD, List.getElem?_zipWith, h3, h5]
    · simp only [RpL]
      exact ⟨_, _, rfl, h4, _, _, rfl, h6, rfl⟩
end
end Sm


set_option Elab.async false
set_option linter.all false
set_option maxRecDepth 100000
set_option maxHeartbeats 1000000
/-! Sm8: calls of built-ins, methods; what changes a list of one's own or a cell of the store. -/
namespace Sm
open PySem PySem.Spec L2

/-! ### iterables as expressions -/
@[simp] def iSeq (m : Ex) : Lx := fun env => bnd (m env) fun d => lift (seqD d)
def iEnumS (m : Ex) : Lx := fun env => bnd (m env) fun d => lift ((seqD d).map (enumD 0))
def iZipS (a b : Ex) : Lx := fun env => bnd (a env) fun x => bnd (b env) fun y => lift ((seqD x).bind fun xs => (seqD y).map fun ys => zipD xs ys)
def rngD (lo hi : Int) : List D := (List.range (hi - lo).toNat).map fun i => .int (lo + (i : Nat))
def sm62 (i : Int) : Bool := decide (-(2 ^ 62) ≤ i ∧ i < 2 ^ 62)
def iRng1S (m : Ex) : Lx := fun env => bnd (m env) fun d => lift (match d with | .int j => if sm62 j = true then some (rngD 0 j) else none | _ => none)
def iRng2S (a b : Ex) : Lx := fun env => bnd (a env) fun x => bnd (b env) fun y => lift (match x, y with | .int i, .int j => if (sm62 i && sm62 j) = true then some (rngD i j) else none | _, _ => none)
section
variable {X : Cx} {tg e e2 : Expr} {te : TE} {ta : TA} {pins : List (Addr × Obj)} {σ : L2.St} {H : Hp} {s : Shared}
theorem pi_src {l : Expr} {tl : TE} (hl : PE X l tl) : PI X tg l (fun σ H R => tl σ H fun x H1 => ∃ S : Src, S.ofV x ∧ (∃ n, S.len X.K H1 n) ∧ R (S.it X.K) H1) := by
  refine ⟨fun pins s σ H R I h => ?_⟩
  refine thn (hl.run pins s σ H _ I h) fun v s1 ⟨x, H1, I1, r1, S, ex, ⟨n, hn⟩, q⟩ => ?_
  cases S with
  | lst a =>
    cases ex
    cases r1
    obtain ⟨xs, hq, _⟩ := hn
    obtain ⟨its, rv, p, hz⟩ := I1.list hq
    refine wpAny_pyIter_list p.isList ?_
    refine ⟨s1.heap.objs.size, [s1.heap.objs.size], _, _, H1, rfl, I1.kept (t' := s1.toks) fun b o e => Heap.get?_push_of_some _ e, turn_list a _, ⟨_, Heap.get?_push_size _ rfl, rfl, rfl⟩, fun b hb => ?_, q⟩
    have e : b = s1.heap.objs.size := by simpa using hb
    subst e
    exact I1.fpOk (Nat.le_refl _) (I1.hok.fresh (Nat.le_refl _))
  | tup a =>
    cases ex
    cases r1
    obtain ⟨xs, hq, _⟩ := hn
    obtain ⟨its, rv, p, hz⟩ := I1.tuple hq
    refine wpAny_pyIter_tuple (show s1.heap.IsTuple a its.toArray from p) ?_
    refine ⟨s1.heap.objs.size, [s1.heap.objs.size], _, _, H1, rfl, I1.kept (t' := s1.toks) fun b o e => Heap.get?_push_of_some _ e, turn_tuple a _, ⟨_, Heap.get?_push_size _ rfl, rfl, rfl⟩, fun b hb => ?_, q⟩
    have e : b = s1.heap.objs.size := by simpa using hb
    subst e
    exact I1.fpOk (Nat.le_refl _) (I1.hok.fresh (Nat.le_refl _))
  | txt x =>
    cases ex
    obtain ⟨t, rfl⟩ := r1
    cases ha : x.cps.all (· < 128)
    · exact wpAny_pyIter_wide ha (pi_one (tk := s1.toks) I1 _ (turn_str _ x t "str_iterator" (.inr rfl)) ⟨_, Heap.get?_push_size _ rfl, rfl, rfl⟩ q)
    · exact wpAny_pyIter_ascii ha (pi_one (tk := s1.toks) I1 _ (turn_str _ x t "str_ascii_iterator" (.inl rfl)) ⟨_, Heap.get?_push_size _ rfl, rfl, rfl⟩ q)
theorem pi_enumS {p pos tpos : Pos} {elts : List Expr} {kk : Nat} (hg : Gl X "enumerate") (hm : X.mg "enumerate" = none) (ha : PA X [e] ta) (hs : starEach [e] X.env = [(false, eval e X.env)] := by rfl) :
    PI X (.Tuple elts kk tpos) (.Call (.Name "enumerate" p) [e] [] pos) (fun σ H R => ta σ H fun vs H1 => ∃ (x : V) (S : Src), vs = [x] ∧ S.ofV x ∧ (∃ n, S.len X.K H1 n) ∧ R (Iter1 X.K S) H1) := by
  refine ⟨fun pins s σ H R I h => ?_⟩
  refine PyProof.Rows.Call_ (ld_blt I hg hm PyProof.Rows.boot_enumerate (PyProof.Rows.callWith_type1 (thn (ha.run pos pins s σ H _ I h) fun us s1 ⟨vs, H1, I1, r1, x, S, ev, ex, ⟨n, hn⟩, q⟩ => ?_) hs rfl))
  subst ev
  obtain ⟨u, rfl, ru⟩ := vals1 r1
  obtain ⟨o, φ, B, hφ, hit⟩ := S.begins I1 (S.ofV_val ex ru) hn
  refine enum_begins1 B hφ fun h' he ho hsz hk => wpAny_pyIter_enum he ?_
  have I2 : Inv X pins σ H1 { s1 with heap := h' } := I1.kept (t' := s1.toks) hk
  refine ⟨s1.heap.objs.size + 1, [s1.heap.objs.size + 1, s1.heap.objs.size], _, _, H1, rfl, I2, turn_enumS S (s1.heap.objs.size + 1) s1.heap.objs.size, ⟨⟨.none, he⟩, hit _ _ ho, Nat.succ_ne_self _⟩, fun b hb => ?_, q⟩
  have e' : b = s1.heap.objs.size + 1 ∨ b = s1.heap.objs.size := by simpa using hb
  have hle : s1.heap.objs.size ≤ b := by
    rcases e' with z | z
    · rw [z]; exact Nat.le_add_right _ _
    · rw [z]; exact Nat.le_refl _
  exact I1.fpOk hle (I1.hok.fresh hle)
theorem pi_zipS {p pos tpos : Pos} {elts : List Expr} {kk : Nat} (hg : Gl X "zip") (hm : X.mg "zip" = none) (ha : PA X [e, e2] ta)
    (hs : starEach [e, e2] X.env = (false, eval e X.env) :: starEach [e2] X.env := by rfl) (hpl : (backTo pos (starEach [e2] X.env)).any (·.1) = false := by rfl) :
    PI X (.Tuple elts kk tpos) (.Call (.Name "zip" p) [e, e2] [] pos) (fun σ H R => ta σ H fun vs H1 => ∃ (x y : V) (S1 S2 : Src), vs = [x, y] ∧ S1.ofV x ∧ S2.ofV y ∧ (∃ n, S1.len X.K H1 n) ∧ (∃ n, S2.len X.K H1 n) ∧ R (Iter2 X.K S1 S2) H1) := by
  refine ⟨fun pins s σ H R I h => ?_⟩
  refine PyProof.Rows.Call_ (ld_blt I hg hm PyProof.Rows.boot_zip (PyProof.Rows.callWith_type1 (thn (ha.run pos pins s σ H _ I h) fun us s1 ⟨vs, H1, I1, r1, x, y, S1, S2, ev, ex, ey, ⟨n1, hn1⟩, ⟨n2, hn2⟩, q⟩ => ?_) hs hpl))
  subst ev
  obtain ⟨u1, u2, rfl, r1, r2⟩ := vals2 r1
  obtain ⟨o1, φ1, B1, h1, it1⟩ := S1.begins I1 (S1.ofV_val ex r1) hn1
  obtain ⟨o2, φ2, B2, h2, it2⟩ := S2.begins I1 (S2.ofV_val ey r2) hn2
  refine zip_begins2 B1 B2 h1 h2 fun h' hz hTI hTO g1 g2 hsz hk => wpAny_pyIter_zip hz ?_
  have I2 : Inv X pins σ H1 { s1 with heap := h' } := I1.kept (t' := s1.toks) hk
  refine ⟨s1.heap.objs.size + 4, [s1.heap.objs.size + 4, s1.heap.objs.size + 2, s1.heap.objs.size + 3, s1.heap.objs.size, s1.heap.objs.size + 1], _, _, H1, rfl, I2, turn_zipS (zip_sepS (Src.under_of I1 hn1) (Src.under_of I1 hn2)), ⟨hz, hTI, ⟨_, _, hTO⟩, it1 _ _ g1, it2 _ _ g2⟩, fun c hcm => ?_, q⟩
  have e' : c = s1.heap.objs.size + 4 ∨ c = s1.heap.objs.size + 2 ∨ c = s1.heap.objs.size + 3 ∨ c = s1.heap.objs.size ∨ c = s1.heap.objs.size + 1 := by simpa using hcm
  have hle : s1.heap.objs.size ≤ c := by
    rcases e' with z | z | z | z | z
    · rw [z]; exact Nat.le_add_right _ _
    · rw [z]; exact Nat.le_add_right _ _
    · rw [z]; exact Nat.le_add_right _ _
    · rw [z]; exact Nat.le_refl _
    · rw [z]; exact Nat.le_add_right _ _
  exact I1.fpOk hle (I1.hok.fresh hle)
end
section
variable {C : Cn} {κ : Kd} {tg e e2 : Expr} {me me2 : Ex} {p pos tpos : Pos} {elts : List Expr} {kk : Nat}
theorem si_seq (he : SE C .froz e me) : SI C tg e (iSeq me) := PI.imp (pi_src he) fun σ H Q ⟨env, W, st, e, R, o⟩ => by
  subst e
  refine ⟨env, W, st, rfl, R, (Out.bnd o).imp fun d st1 o1 v W1 e1 k1 r1 => ?_⟩
  cases q : seqD d with
  | none => rw [q] at o1; exact (show False from o1).elim
  | some ds =>
    rw [q] at o1
    obtain ⟨S, h1, h2⟩ := src_of r1 q
    exact ⟨S, h2, ⟨_, h1.len k1⟩, (show (∀ J W', Ext W W' → C.ok W' st1 → WalkD C W' J ds → Q J W'.H) from o1) _ W1 e1 k1 h1.walk⟩
theorem si_enum (hg : Gl C.X "enumerate") (hm : C.X.mg "enumerate" = none) (he : SE C .froz e me) (hs : starEach [e] C.X.env = [(false, eval e C.X.env)] := by rfl) : SI C (.Tuple elts kk tpos) (.Call (.Name "enumerate" p) [e] [] pos) (iEnumS me) :=
  PI.imp (pi_enumS hg hm (pa_cons he pa_nil hs) hs) fun σ H Q ⟨env, W, st, e, R, o⟩ => by
    subst e
    refine ⟨env, W, st, rfl, R, (Out.bnd o).imp fun d st1 o1 v W1 e1 k1 r1 => ?_⟩
    cases q : seqD d with
    | none => rw [q] at o1; exact (show False from o1).elim
    | some ds =>
      rw [q] at o1
      obtain ⟨S, h1, h2⟩ := src_of r1 q
      exact ⟨v, S, rfl, h2, ⟨_, h1.len k1⟩, (show (∀ J W', Ext W W' → C.ok W' st1 → WalkD C W' J (enumD 0 ds) → Q J W'.H) from o1) _ W1 e1 k1 h1.enum⟩
theorem si_zip (hg : Gl C.X "zip") (hm : C.X.mg "zip" = none) (he : SE C .froz e me) (he2 : SE C .froz e2 me2)
    (hs : starEach [e, e2] C.X.env = (false, eval e C.X.env) :: starEach [e2] C.X.env := by rfl) (hs2 : starEach [e2] C.X.env = [(false, eval e2 C.X.env)] := by rfl) (hpl : (backTo pos (starEach [e2] C.X.env)).any (·.1) = false := by rfl) : SI C (.Tuple elts kk tpos) (.Call (.Name "zip" p) [e, e2] [] pos) (iZipS me me2) :=
  PI.imp (pi_zipS hg hm (pa_cons he (pa_cons he2 pa_nil hs2) hs) hs hpl) fun σ H Q ⟨env, W, st, e, R, o⟩ => by
    subst e
    refine ⟨env, W, st, rfl, R, (Out.bnd o).imp fun d st1 o1 v W1 e1 k1 r1 => ⟨env, W1, st1, rfl, R.up e1 k1, ((Out.bnd o1).up e1).imp fun d2 st2 o2 v2 W2 e2 k2 r2 => ?_⟩⟩
    cases q : seqD d with
    | none => rw [q] at o2; exact (show False from o2).elim
    | some ds =>
      cases q2 : seqD d2 with
      | none => rw [q, q2] at o2; exact (show False from o2).elim
      | some ds2 =>
        rw [q, q2] at o2
        obtain ⟨S, h1, h2⟩ := src_of r1 q
        obtain ⟨S', h3, h4⟩ := src_of r2 q2
        have h1' := h1.lat e2.lat
        exact ⟨v, v2, S, S', rfl, h2, h4, ⟨_, h1'.len k2⟩, ⟨_, h3.len k2⟩, (show (∀ J W', Ext W W' → C.ok W' st2 → WalkD C W' J (zipD ds ds2) → Q J W'.H) from o2) _ W2 (e1.trans e2) k2 (h1'.zip h3)⟩
theorem walk_rng {W : Wd} {lo hi : Int} : WalkD C W (Itr lo (hi - lo).toNat) (rngD lo hi) := by
  have hl : (rngD lo hi).length = (hi - lo).toNat := by simp [rngD]
  refine ⟨fun _ => True, YFn fun i => .int (lo + (i : Nat)), by rw [hl]; exact walk_range, fun W' st l k => trivial, fun i W' st x H' hi l k y => ?_⟩
  obtain ⟨e, ex⟩ := y
  subst e ex
  rw [hl] at hi
  exact ⟨W', .int (lo + (i : Nat)), rfl, .refl W', k, by simp [rngD, hi], by simp [Cn.rp, Rp]⟩
theorem sm62_is {i : Int} (h : sm62 i = true) : -(2 ^ 62) ≤ i ∧ i < 2 ^ 62 := of_decide_eq_true h
theorem si_rng1 (hg : Gl C.X "range") (hm : C.X.mg "range" = none) (he : SE C κ e me) (hs : starEach [e] C.X.env = [(false, eval e C.X.env)] := by rfl) : SI C tg (.Call (.Name "range" p) [e] [] pos) (iRng1S me) :=
  PI.imp (pi_range1 hg hm (pa_cons he pa_nil hs) hs) fun σ H Q ⟨env, W, st, e, R, o⟩ => by
    subst e
    refine ⟨env, W, st, rfl, R, (Out.bnd o).imp fun d st1 o1 v W1 e1 k1 r1 => ?_⟩
    cases d with
    | int j =>
      have ev := r1.bor.int
      subst ev
      have o' : Out C σ W (lift (if sm62 j = true then some (rngD 0 j) else none) st1) _ := o1
      by_cases z : sm62 j = true
      · rw [if_pos z] at o'
        refine ⟨j, rfl, (sm62_is z).1, (sm62_is z).2, ?_⟩
        have := (show (∀ J W', Ext W W' → C.ok W' st1 → WalkD C W' J (rngD 0 j) → Q J W'.H) from o') _ W1 e1 k1 walk_rng
        simpa using this
      · rw [if_neg z] at o'; exact (show False from o').elim
    | _ => exact (show False from o1).elim
theorem si_rng2 {κ2 : Kd} (hg : Gl C.X "range") (hm : C.X.mg "range" = none) (he : SE C κ e me) (he2 : SE C κ2 e2 me2) (hs : starEach [e, e2] C.X.env = [(false, eval e C.X.env), (false, eval e2 C.X.env)] := by rfl) (hs2 : starEach [e2] C.X.env = [(false, eval e2 C.X.env)] := by rfl) :
    SI C tg (.Call (.Name "range" p) [e, e2] [] pos) (iRng2S me me2) :=
  PI.imp (pi_range2 hg hm (pa_cons he (pa_cons he2 pa_nil hs2) (by rw [hs, hs2])) hs hs2) fun σ H Q ⟨env, W, st, e, R, o⟩ => by
    subst e
    refine ⟨env, W, st, rfl, R, (Out.bnd o).imp fun d st1 o1 v W1 e1 k1 r1 => ⟨env, W1, st1, rfl, R.up e1 k1, ((Out.bnd o1).up e1).imp fun d2 st2 o2 v2 W2 e2 k2 r2 => ?_⟩⟩
    cases d with
    | int i =>
      cases d2 with
      | int j =>
        have ev := r1.bor.int
        have ev2 := r2.bor.int
        subst ev ev2
        have o' : Out C σ W (lift (if (sm62 i && sm62 j) = true then some (rngD i j) else none) st2) _ := o2
        by_cases z : (sm62 i && sm62 j) = true
        · rw [if_pos z] at o'
          obtain ⟨z1, z2⟩ := and2 z
          exact ⟨i, j, rfl, ⟨(sm62_is z1).1, (sm62_is z1).2, (sm62_is z2).1, (sm62_is z2).2⟩, (show (∀ J W', Ext W W' → C.ok W' st2 → WalkD C W' J (rngD i j) → Q J W'.H) from o') _ W2 (e1.trans e2) k2 walk_rng⟩
        · rw [if_neg z] at o'; exact (show False from o').elim
      | _ => exact (show False from o2).elim
    | _ => exact (show False from o2).elim
end
end Sm


set_option Elab.async false
set_option linter.all false
set_option maxRecDepth 100000
set_option maxHeartbeats 1000000
/-! Sm9: calls of built-ins. -/
namespace Sm
open PySem PySem.Spec L2
abbrev KEnd (C : Cn) (κ : Kd) (W : Wd) (Q : VK) (d : D) (st' : Store) : Prop := ∀ z W', Ext W W' → C.ok W' st' → C.rk κ W W' d z → Q z W'.H
/-- a call of f with values -/
def SFn (C : Cn) (κ : Kd) (f : Value) (g : List D → M D) : Prop :=
  ∀ (pins : List (Addr × Obj)) (s : Shared) (σ : L2.St) (W : Wd) (st : Store) (ds : List D) (vs : List V) (us : List Value) (Q : VK), Inv C.X pins σ W.H s → C.ok W st → BorL C.X.K C.X.mg W ds vs → Vals vs us →
    Out C σ W (g ds st) (KEnd C κ W Q) → wpAny (model C.X.prog C.X.w) C.X.A (call f us) (EP C.X pins σ Q) C.X.xe s
@[simp] def eFn (g : List D → M D) (m : Lx) : Ex := fun env => bnd (m env) g
/-- of one value -/
@[simp] def g1 (g : D → M D) : List D → M D := fun ds => match ds with
  | [d] => g d
  | _ => halt
@[simp] def g2 (g : D → D → M D) : List D → M D := fun ds => match ds with
  | [a, b] => g a b
  | _ => halt
section
variable {C : Cn} {κ : Kd} {e : Expr} {es : List Expr} {ml : Lx} {g : List D → M D} {id T : String} {x : Str} {p pos : Pos} {f : Value}
theorem SB.go {pins : List (Addr × Obj)} {s : Shared} {σ : L2.St} {env : En} {W : Wd} {st : Store} {Q : List Value → Shared → Prop} {pos : Pos} (h : SB C es ml) (I : Inv C.X pins σ W.H s) (R : SR C env W st σ)
    (o : Out C σ W (ml env st) fun ds st' => ∀ vs us s' W', Ext W W' → C.ok W' st' → BorL C.X.K C.X.mg W' ds vs → Inv C.X pins σ W'.H s' → Vals vs us → Q us s') :
    wpAny (model C.X.prog C.X.w) C.X.A (spliced (backTo pos (starEach es C.X.env))) Q C.X.xe s := by
  refine thn (h.run pos pins s σ W.H (fun vs H' => ∀ us s', Inv C.X pins σ H' s' → Vals vs us → Q us s') I ⟨env, W, st, rfl, R, o.imp fun d st' h v W' e k r u s' I' ru => h v u s' W' e k r I' ru⟩) fun u s' ⟨v, H', I', r, q⟩ => q u s' I' r
theorem fn_go {pins : List (Addr × Obj)} {s : Shared} {σ : L2.St} {env : En} {W : Wd} {st : Store} {Q : VK} {pos : Pos} (hf : SFn C κ f g) (ha : SB C es ml) (I : Inv C.X pins σ W.H s) (R : SR C env W st σ) (o : Out C σ W (eFn g ml env st) (KEnd C κ W Q)) :
    wpAny (model C.X.prog C.X.w) C.X.A (spliced (backTo pos (starEach es C.X.env))) (fun us s1 => wpAny (model C.X.prog C.X.w) C.X.A (call f us) (EP C.X pins σ Q) C.X.xe s1) C.X.xe s :=
  ha.go I R ((Out.bnd o).imp fun ds st1 o1 vs us s1 W1 e1 k1 r1 I1 rv => hf pins s1 σ W1 st1 ds vs us Q I1 k1 r1 rv ((o1.up e1).imp fun d st2 q z W2 e2 k2 r2 => q z W2 (e1.trans e2) k2 (r2.down e1)))
/-- f(e, ..) of a built-in function -/
theorem se_fnB (hf : SFn C κ (.builtin id) g) (hg : Gl C.X x) (hm : C.X.mg x = none) (hv : bootBuiltins x = some (.builtin id)) (ha : SB C (e :: es) ml) (hn : x ≠ "__name__" := by decide) (hdb : (x == ("__debug__" : Str)) = false := by decide)
    (he : starEach (e :: es) C.X.env = (false, eval e C.X.env) :: starEach es C.X.env := by rfl) (hpl : (backTo pos (starEach es C.X.env)).any (·.1) = false := by rfl) : SE C κ (.Call (.Name x p) (e :: es) [] pos) (eFn g ml) :=
  SE.mk fun pins s σ env W st Q I R o => wpAny_Call_Name_kw (ld_blt I hg hm hv (PyProof.Rows.callWith_builtin1 (fn_go hf ha I R o) he hpl) hn hdb)
/-- T(e, ..) of a built-in type -/
theorem se_fnT (hf : SFn C κ (.type T) g) (hg : Gl C.X x) (hm : C.X.mg x = none) (hv : bootBuiltins x = some (.type T)) (ha : SB C (e :: es) ml) (hn : x ≠ "__name__" := by decide) (hdb : (x == ("__debug__" : Str)) = false := by decide)
    (he : starEach (e :: es) C.X.env = (false, eval e C.X.env) :: starEach es C.X.env := by rfl) (hpl : (backTo pos (starEach es C.X.env)).any (·.1) = false := by rfl) : SE C κ (.Call (.Name x p) (e :: es) [] pos) (eFn g ml) :=
  SE.mk fun pins s σ env W st Q I R o => wpAny_Call_Name_kw (ld_blt I hg hm hv (PyProof.Rows.callWith_type1 (fn_go hf ha I R o) he hpl) hn hdb)
/-- by one value -/
theorem sfn1 {g : D → M D} (h : ∀ (pins : List (Addr × Obj)) (s : Shared) (σ : L2.St) (W : Wd) (st : Store) (d : D) (v : V) (u : Value) (Q : VK), Inv C.X pins σ W.H s → C.ok W st → Bor C.X.K C.X.mg W d v → RelV v u →
    Out C σ W (g d st) (KEnd C κ W Q) → wpAny (model C.X.prog C.X.w) C.X.A (call f [u]) (EP C.X pins σ Q) C.X.xe s) : SFn C κ f (g1 g) := by
  intro pins s σ W st ds vs us Q I k b r o
  match ds, b, o with
  | [], _, o => exact (show False from o).elim
  | [d], b, o =>
    obtain ⟨v, vr, ev, b1, b2⟩ := b
    obtain rfl : vr = [] := b2
    subst ev
    obtain ⟨u, rfl, ru⟩ := vals1 r
    exact h pins s σ W st d v u Q I k b1 ru o
  | _ :: _ :: _, _, o => exact (show False from o).elim
theorem sfn2 {g : D → D → M D} (h : ∀ (pins : List (Addr × Obj)) (s : Shared) (σ : L2.St) (W : Wd) (st : Store) (d d2 : D) (v v2 : V) (u u2 : Value) (Q : VK), Inv C.X pins σ W.H s → C.ok W st → Bor C.X.K C.X.mg W d v → Bor C.X.K C.X.mg W d2 v2 → RelV v u → RelV v2 u2 →
    Out C σ W (g d d2 st) (KEnd C κ W Q) → wpAny (model C.X.prog C.X.w) C.X.A (call f [u, u2]) (EP C.X pins σ Q) C.X.xe s) : SFn C κ f (g2 g) := by
  intro pins s σ W st ds vs us Q I k b r o
  match ds, b, o with
  | [], _, o => exact (show False from o).elim
  | [_], _, o => exact (show False from o).elim
  | [d, d2], b, o =>
    obtain ⟨v, vr, ev, b1, v2, vr2, ev2, b2, b3⟩ := b
    obtain rfl : vr2 = [] := b3
    subst ev2
    subst ev
    obtain ⟨u, u2, rfl, ru, ru2⟩ := vals2 r
    exact h pins s σ W st d d2 v v2 u u2 Q I k b1 b2 ru ru2 o
  | _ :: _ :: _ :: _, _, o => exact (show False from o).elim
end

/-! ### what reads as data -/
/-- a list or tuple of data, as the library reads it -/
structure SeqR (C : Cn) (W : Wd) (s : Shared) (lst : Bool) (ds : List D) (u : Value) : Prop where
  ex : ∃ (a : Addr) (vs : List V) (its : List Value) (l : List Addr), u = .ref a ∧ (if lst = true then s.heap.IsList a its.toArray else s.heap.IsTuple a its.toArray) ∧ Vals vs its ∧ ReadsAll s.heap its (pyL ds) l ∧ RpL C.X.K C.X.mg W.as W.G ds vs ∧ vs.length ≤ sizeLine
/-- lists (also of the script) and tuples -/
def lotD : D → Option (Bool × List D)
  | .lst xs => some (true, xs)
  | .scr xs => some (true, xs)
  | .tup xs => some (false, xs)
  | _ => none
section
variable {C : Cn} {pins : List (Addr × Obj)} {s : Shared} {σ : L2.St} {W : Wd} {st : Store} {d : D} {v : V} {u : Value} {n : Nat} {lst : Bool} {ds : List D}
theorem lot_vals (I : Inv C.X pins σ W.H s) (k : C.ok W st) (b : Bor C.X.K C.X.mg W d v) (r : RelV v u) (h : lotD d = some (lst, ds)) :
    ∃ (a : Addr) (vs : List V) (its : List Value), v = .ref a ∧ u = .ref a ∧ (if lst = true then s.heap.IsList a its.toArray else s.heap.IsTuple a its.toArray) ∧ (if lst = true then SqL C.X.K W.H a vs else SqT C.X.K W.H a vs) ∧ Vals vs its ∧ RpL C.X.K C.X.mg W.as W.G ds vs ∧ vs.length ≤ sizeLine := by
  cases d with
  | lst xs =>
    cases h
    obtain ⟨a, vs, ev, hp, l⟩ := b.lst k
    subst ev; cases r
    obtain ⟨its, rv, p, hz⟩ := I.list (.inl (.inl hp))
    exact ⟨a, vs, its, rfl, rfl, p.isList, .inl (.inl hp), rv, l, hz⟩
  | scr xs =>
    cases h
    obtain ⟨a, vs, ev, hp, l⟩ := b.scr k
    subst ev; cases r
    obtain ⟨its, rv, p, hz⟩ := I.list hp
    exact ⟨a, vs, its, rfl, rfl, p.isList, hp, rv, l, hz⟩
  | tup xs =>
    cases h
    obtain ⟨a, vs, ev, hp, l⟩ := b.tup k
    subst ev; cases r
    obtain ⟨its, rv, p, hz⟩ := I.tuple hp
    exact ⟨a, vs, its, rfl, rfl, p, hp, rv, l, hz⟩
  | _ => cases h
theorem lot_reads (I : Inv C.X pins σ W.H s) (hs : Sysm C.X.K) (k : C.ok W st) (b : Bor C.X.K C.X.mg W d v) (r : RelV v u) (h : lotD d = some (lst, ds)) (hd : datL n ds = true) : SeqR C W s lst ds u := by
  obtain ⟨a, vs, its, _, eu, hl, _, rv, l, hz⟩ := lot_vals I k b r h
  obtain ⟨l', h1, _⟩ := RpL.reads I hs k.sub n ds vs its hd l rv
  exact ⟨a, vs, its, l', eu, hl, rv, h1, l, hz⟩
end
theorem EP.bl {C : Cn} {κ : Kd} {pins : List (Addr × Obj)} {s : Shared} {σ : L2.St} {W : Wd} {st : Store} {Q : VK} {b : Bool} (I : Inv C.X pins σ W.H s) (k : C.ok W st) (o : KEnd C .froz W Q (.bl b) st) : EP C.X pins σ Q (.bool b) s := ⟨.bl b, W.H, I, rfl, o _ W (.refl W) k rk_bl⟩
theorem EP.int {C : Cn} {κ : Kd} {pins : List (Addr × Obj)} {s : Shared} {σ : L2.St} {W : Wd} {st : Store} {Q : VK} {i : Int} {t : Tok} (I : Inv C.X pins σ W.H s) (k : C.ok W st) (o : KEnd C .froz W Q (.int i) st) : EP C.X pins σ Q (.int i t) s := ⟨.int i, W.H, I, ⟨t, rfl⟩, o _ W (.refl W) k rk_int⟩
theorem EP.str {C : Cn} {κ : Kd} {pins : List (Addr × Obj)} {s : Shared} {σ : L2.St} {W : Wd} {st : Store} {Q : VK} {i : Str} {t : Tok} (I : Inv C.X pins σ W.H s) (k : C.ok W st) (o : KEnd C .froz W Q (.str i) st) : EP C.X pins σ Q (.str i t) s := ⟨.str i, W.H, I, ⟨t, rfl⟩, o _ W (.refl W) k rk_str⟩

/-! ### the functions -/
def lenD : D → Option D
  | .lst xs => some (.int xs.length)
  | .tup xs => some (.int xs.length)
  | .scr xs => some (.int xs.length)
  | .str z => if z.length ≤ line then some (.int z.length) else none
  | _ => none
def absD : D → Option D
  | .int i => some (.int (if i < 0 then -i else i))
  | _ => none
def intD : D → Option D
  | .int i => some (.int i)
  | .bl b => some (.int (if b then 1 else 0))
  | _ => none
def tupD : D → Option D
  | .lst xs => some (.tup xs)
  | .scr xs => some (.tup xs)
  | .tup xs => some (.tup xs)
  | _ => none
def listD : D → Option D
  | .lst xs => some (.lst xs)
  | .scr xs => some (.lst xs)
  | .tup xs => some (.lst xs)
  | _ => none
def intsD : List D → Option (List Int)
  | [] => some []
  | .int i :: r => (intsD r).map (i :: ·)
  | _ :: _ => none
theorem intsD_map : ∀ {ds : List D} {ns : List Int}, intsD ds = some ns → ds = ns.map D.int
  | [], ns, h => by cases h; rfl
  | .int i :: r, ns, h => by
    cases q : intsD r with
    | none => simp [intsD, q] at h
    | some ms =>
      simp [intsD, q] at h
      subst h
      rw [intsD_map q, List.map_cons]
  | .non :: _, _, h => by simp [intsD] at h
  | .bl _ :: _, _, h => by simp [intsD] at h
  | .str _ :: _, _, h => by simp [intsD] at h
  | .tup _ :: _, _, h => by simp [intsD] at h
  | .lst _ :: _, _, h => by simp [intsD] at h
  | .dct _ :: _, _, h => by simp [intsD] at h
  | .obj _ :: _, _, h => by simp [intsD] at h
  | .glo _ :: _, _, h => by simp [intsD] at h
  | .raw _ :: _, _, h => by simp [intsD] at h
  | .scr _ :: _, _, h => by simp [intsD] at h
def sumD (d : D) : Option D := (lotD d).bind fun p => (intsD p.2).map fun ns => .int ns.sum
def trD : D → Option Bool
  | .non => some false
  | .bl b => some b
  | .int i => some (i != 0)
  | .str z => if z.length ≤ line then some ((z.length : Int) != 0) else none
  | .tup xs => some (!xs.isEmpty)
  | .lst xs => some (!xs.isEmpty)
  | _ => none
/-- every item's truth is known -/
def trL : List D → Option (List Bool)
  | [] => some []
  | d :: r => (trD d).bind fun b => (trL r).map (b :: ·)
def anyD (d : D) : Option D := (lotD d).bind fun p => if shpL 60 p.2 = true then (trL p.2).map fun bs => .bl (bs.any id) else none
def allD (d : D) : Option D := (lotD d).bind fun p => if shpL 60 p.2 = true then (trL p.2).map fun bs => .bl (bs.all id) else none
section
variable {C : Cn}
theorem sf_len : SFn C .froz (.builtin "len") (g1 fun d => lift (lenD d)) := sfn1 fun pins s σ W st d v u Q I k b ru o => by
  have seq : ∀ {ds : List D} {lst : Bool}, lotD d = some (lst, ds) → KEnd C .froz W Q (.int ds.length) st → wpAny (model C.X.prog C.X.w) C.X.A (call (.builtin "len") [u]) (EP C.X pins σ Q) C.X.xe s := fun {ds lst} h q => by
    obtain ⟨a, vs, its, ev, eu, _, sq, rv, l, hz⟩ := lot_vals I k b ru h
    refine call_len_seq pins s σ W.H [v] [u] Q I (.cons ru .nil) ⟨a, vs, by rw [ev], ?_, ?_⟩
    · cases lst with
      | true => rw [if_pos rfl] at sq; exact .inl sq
      | false => rw [if_neg Bool.false_ne_true] at sq; exact .inr sq
    · rw [← l.len]; exact q _ W (.refl W) k rk_int
  cases d with
  | lst xs => exact seq rfl o
  | tup xs => exact seq rfl o
  | scr xs => exact seq rfl o
  | str z =>
    have ev := b.str
    subst ev
    have o' : Out C σ W (lift (if z.length ≤ line then some (D.int z.length) else none) st) _ := o
    by_cases hz : z.length ≤ line
    · rw [if_pos hz] at o'
      exact call_len_str pins s σ W.H _ [u] Q I (.cons ru .nil) ⟨z, rfl, by rw [← line_eq]; exact hz, o' _ W (.refl W) k rk_int⟩
    · rw [if_neg hz] at o'; exact (show False from o').elim
  | _ => exact (show False from o).elim
theorem sf_abs : SFn C .froz (.builtin "abs") (g1 fun d => lift (absD d)) := sfn1 fun pins s σ W st d v u Q I k b ru o => by
  cases d with
  | int i =>
    have ev := b.int
    subst ev
    exact call_abs pins s σ W.H _ [u] Q I (.cons ru .nil) ⟨i, rfl, Out.get o _ W (.refl W) k rk_int⟩
  | _ => exact (show False from o).elim
theorem sf_int : SFn C .froz (.type "int") (g1 fun d => lift (intD d)) := sfn1 fun pins s σ W st d v u Q I k b ru o => by
  cases d with
  | int i =>
    have ev := b.int
    subst ev
    exact call_int1 pins s σ W.H _ [u] Q I (.cons ru .nil) (.inl ⟨i, rfl, Out.get o _ W (.refl W) k rk_int⟩)
  | bl i =>
    have ev := b.bl
    subst ev
    exact call_int1 pins s σ W.H _ [u] Q I (.cons ru .nil) (.inr ⟨i, rfl, Out.get o _ W (.refl W) k rk_int⟩)
  | _ => exact (show False from o).elim
theorem out_lift {α : Type} {x : Option α} {σ : L2.St} {W : Wd} {st : Store} {k : α → Store → Prop} (o : Out C σ W (lift x st) k) : ∃ a, x = some a ∧ k a st := by
  cases x with
  | none => exact (show False from o).elim
  | some a => exact ⟨a, rfl, o⟩
theorem Bor.froz_tup {W : Wd} {ds : List D} {v : V} (h : Bor C.X.K C.X.mg W (.tup ds) v) : C.rp W (.tup ds) v := by
  rcases h with h | ⟨_, _, _, h⟩
  · exact h
  · exact h.elim
theorem sf_tup : SFn C .froz (.type "tuple") (g1 fun d => lift (tupD d)) := sfn1 fun pins s σ W st d v u Q I k b ru o => by
  have seq : ∀ {ds : List D}, lotD d = some (true, ds) → KEnd C .froz W Q (.tup ds) st → wpAny (model C.X.prog C.X.w) C.X.A (call (.type "tuple") [u]) (EP C.X pins σ Q) C.X.xe s := fun {ds} h q => by
    obtain ⟨a, vs, its, ev, eu, hl, _, rv, l, hz⟩ := lot_vals I k b ru h
    subst eu
    rw [if_pos rfl] at hl
    have hlen := rv.length
    refine call_tuple_list hl (fun h' kp => ?_) (by simp only [List.size_toArray]; omega)
    have I1 : Inv C.X pins σ W.H { s with heap := h' } := I.kept (t' := s.toks) kp
    exact newTup (t := s.toks) (Q := Q) I1 rv hz fun p ob np no => q _ (W.newT p ob vs) (newT_ext k np) (newT_ok k np) (newT_rp k np no l)
  cases d with
  | lst xs => exact seq rfl o
  | scr xs => exact seq rfl o
  | tup xs =>
    obtain ⟨a, vs, its, ev, eu, hl, _, rv, l, hz⟩ := lot_vals I k b ru rfl
    subst ev eu
    rw [if_neg Bool.false_ne_true] at hl
    exact call_tuple_same hl ⟨.ref a, W.H, I, rfl, (show KEnd C .froz W Q (.tup xs) st from o) _ W (.refl W) k b.froz_tup⟩
  | _ => exact (show False from o).elim
theorem sf_list : SFn C .fresh (.type "list") (g1 fun d => lift (listD d)) := sfn1 fun pins s σ W st d v u Q I k b ru o => by
  have seq : ∀ {ds : List D} {lst : Bool}, lotD d = some (lst, ds) → KEnd C .fresh W Q (.lst ds) st → wpAny (model C.X.prog C.X.w) C.X.A (call (.type "list") [u]) (EP C.X pins σ Q) C.X.xe s := fun {ds lst} h q => by
    obtain ⟨a, vs, its, ev, eu, _, sq, rv, l, hz⟩ := lot_vals I k b ru h
    refine call_list_of pins s σ W.H [v] [u] Q I (.cons ru .nil) ⟨a, vs, by rw [ev], ?_, fun p np => q _ (W.new p (.lst vs)) (new_ext np) (new_ok k np) (new_lst k np l)⟩
    cases lst with
    | true => rw [if_pos rfl] at sq; exact .inl sq
    | false => rw [if_neg Bool.false_ne_true] at sq; exact .inr sq
  cases d with
  | lst xs => exact seq rfl o
  | tup xs => exact seq rfl o
  | scr xs => exact seq rfl o
  | _ => exact (show False from o).elim
theorem sf_sum (hc : C.X.calm = true) : SFn C .froz (.builtin "sum") (g1 fun d => lift (sumD d)) := sfn1 fun pins s σ W st d v u Q I k b ru o => by
  obtain ⟨dd, hd, o2⟩ := out_lift o
  unfold sumD at hd
  cases q : lotD d with
  | none => rw [q] at hd; cases hd
  | some p =>
    obtain ⟨lst, ds⟩ := p
    rw [q] at hd
    have hd : (intsD ds).map (fun ns => D.int ns.sum) = some dd := hd
    cases q2 : intsD ds with
    | none => rw [q2] at hd; cases hd
    | some ns =>
      rw [q2] at hd
      cases hd
      obtain ⟨a, vs, its, ev, eu, hl, sq, rv, l, hz⟩ := lot_vals I k b ru q
      rw [intsD_map q2] at l
      have evs := RpL.ints (ds := []) l
      subst evs eu
      cases lst with
      | true =>
        rw [if_pos rfl] at sq
        exact cr_sum hc pins s σ W.H [v] [.ref a] Q I (.cons ru .nil) ⟨a, ns, by rw [ev], sq, o2 _ W (.refl W) k rk_int⟩
      | false =>
        rw [if_neg Bool.false_ne_true] at hl
        obtain ⟨xs, hx⟩ := (rv.ints).allInts.items
        have hn : numsOf its.toArray.toList = ns := by rw [show its.toArray.toList = its from rfl, (rv.ints).numsOf]
        rw [hx] at hl hn
        rw [nums_intItems] at hn
        refine PySem.W.ktm_sumG (I.ok.hd hc) hl fun h' tk t' hk => ?_
        have e : preSum (numAt xs) xs.size = ns.sum := by rw [preSum_eq, List.take_of_length_le (by simp), hn]
        rw [e]
        exact EP.int (κ := .froz) (I.kept (t' := tk) hk) k o2

theorem pyL_len : ∀ ds : List D, (pyL ds).length = ds.length
  | [] => rfl
  | _ :: ds => by simp [pyL, pyL_len ds]
theorem tr_one {d : D} {b : Bool} (h : trD d = some b) (hsh : shp 60 d = true) (hl : ∀ xs, (d = .tup xs ∨ d = .lst xs) → xs.length ≤ line) : d.py.truthy = b ∧ d.py.fits63 := by
  have e63 : (line : Int) < 2 ^ 63 := by decide
  cases d with
  | non => cases h; exact ⟨rfl, trivial⟩
  | bl i => cases h; exact ⟨rfl, trivial⟩
  | int i => cases h; exact ⟨rfl, trivial⟩
  | str z =>
    have h : (if z.length ≤ line then some ((z.length : Int) != 0) else none) = some b := h
    by_cases hz : z.length ≤ line
    · rw [if_pos hz] at h
      cases h
      refine ⟨rfl, ?_⟩
      show (z.length : Int) < 2 ^ 63
      omega
    · rw [if_neg hz] at h; cases h
  | tup xs =>
    cases h
    refine ⟨?_, ?_⟩
    · show (!(pyL xs).isEmpty) = !xs.isEmpty
      cases xs <;> rfl
    · show ((pyL xs).length : Int) < 2 ^ 63
      have := hl xs (.inl rfl)
      rw [pyL_len]; omega
  | lst xs =>
    cases h
    refine ⟨?_, ?_⟩
    · show (!(pyL xs).isEmpty) = !xs.isEmpty
      cases xs <;> rfl
    · show ((pyL xs).length : Int) < 2 ^ 63
      have := hl xs (.inr rfl)
      rw [pyL_len]; omega
  | _ => cases h
theorem tr_all : ∀ {ds : List D} {bs : List Bool}, trL ds = some bs → shpL 60 ds = true → (∀ d ∈ ds, ∀ xs, (d = .tup xs ∨ d = .lst xs) → xs.length ≤ line) → (pyL ds).map PyData.truthy = bs ∧ ∀ x ∈ pyL ds, x.fits63
  | [], bs, h, _, _ => by cases h; exact ⟨rfl, fun x hx => by cases hx⟩
  | d :: ds, bs, h, hs, hl => by
    unfold trL at h
    cases q : trD d with
    | none => rw [q] at h; cases h
    | some b =>
      rw [q] at h
      have h : (trL ds).map (b :: ·) = some bs := h
      cases q2 : trL ds with
      | none => rw [q2] at h; cases h
      | some bs' =>
        rw [q2] at h
        cases h
        simp only [shpL, Bool.and_eq_true] at hs
        obtain ⟨h1, h2⟩ := tr_one q hs.1 (hl d List.mem_cons_self)
        obtain ⟨h3, h4⟩ := tr_all q2 hs.2 fun d' hd => hl d' (List.mem_cons_of_mem _ hd)
        refine ⟨by simp [pyL, h1, h3], fun x hx => ?_⟩
        rcases List.mem_cons.mp (show x ∈ d.py :: pyL ds from hx) with e | hx
        · rw [e]; exact h2
        · exact h4 x hx
/-- what stands for a list or tuple is not too long -/
theorem rp_len {pins : List (Addr × Obj)} {s : Shared} {σ : L2.St} {W : Wd} {st : Store} (I : Inv C.X pins σ W.H s) (k : C.ok W st) : ∀ {ds : List D} {vs : List V}, RpL C.X.K C.X.mg W.as W.G ds vs → ∀ d ∈ ds, ∀ xs, (d = .tup xs ∨ d = .lst xs) → xs.length ≤ line
  | [], _, _, d, hd, _, _ => by cases hd
  | d :: ds, vs, h, d', hd, xs, hx => by
    simp only [RpL] at h
    obtain ⟨v, r, _, h1, h2⟩ := h
    rcases List.mem_cons.mp hd with e | hd
    · subst e
      rw [line_eq]
      rcases hx with e | e
      · subst e
        simp only [Rp] at h1
        obtain ⟨a, ys, _, sq, _, l⟩ := h1
        obtain ⟨_, _, _, hz⟩ := I.tuple (SqT.up k.sub sq)
        rw [l.len]; exact hz
      · subst e
        simp only [Rp] at h1
        obtain ⟨a, ys, _, sq, l⟩ := h1
        obtain ⟨_, _, _, hz⟩ := I.list (.inl (.inl (k.sub _ _ sq)))
        rw [l.len]; exact hz
    · exact rp_len I k h2 d' hd xs hx
theorem any_map {α β : Type} (f : α → β) (p : β → Bool) : ∀ xs : List α, (xs.map f).any p = xs.any (fun x => p (f x)) := fun xs => by simp [List.any_map, Function.comp_def]
theorem sf_any (hc : C.X.calm = true) (hs : Sysm C.X.K) : SFn C .froz (.builtin "any") (g1 fun d => lift (anyD d)) := sfn1 fun pins s σ W st d v u Q I k b ru o => by
  obtain ⟨dd, hd, o2⟩ := out_lift o
  unfold anyD at hd
  cases q : lotD d with
  | none => rw [q] at hd; cases hd
  | some p =>
    obtain ⟨lst, ds⟩ := p
    rw [q] at hd
    have hd : (if shpL 60 ds = true then (trL ds).map (fun bs => D.bl (bs.any id)) else none) = some dd := hd
    by_cases hsh : shpL 60 ds = true
    · rw [if_pos hsh] at hd
      cases q2 : trL ds with
      | none => rw [q2] at hd; cases hd
      | some bs =>
        rw [q2] at hd
        cases hd
        obtain ⟨a, vs, its, l', eu, hl, rv, rr, l, hz⟩ := (lot_reads (n := 60) I hs k b ru q (datL_of_shp _ _ hsh)).ex
        subst eu
        obtain ⟨h1, h2⟩ := tr_all q2 hsh (rp_len I k l)
        have e : (pyL ds).any PyData.truthy = bs.any id := by rw [← h1, List.any_map]; rfl
        cases lst with
        | true =>
          rw [if_pos rfl] at hl
          exact PySem.W.any_list_data (I.ok.hd hc) hl rr (plainAll_of_shp _ _ hsh) h2 fun h' tk hk => by rw [e]; exact EP.bl (κ := .froz) (I.kept (t' := tk) hk) k o2
        | false =>
          rw [if_neg Bool.false_ne_true] at hl
          exact PySem.W.any_tuple_data (I.ok.hd hc) hl rr (plainAll_of_shp _ _ hsh) h2 fun h' tk hk => by rw [e]; exact EP.bl (κ := .froz) (I.kept (t' := tk) hk) k o2
    · rw [if_neg hsh] at hd; cases hd
theorem sf_all (hc : C.X.calm = true) (hs : Sysm C.X.K) : SFn C .froz (.builtin "all") (g1 fun d => lift (allD d)) := sfn1 fun pins s σ W st d v u Q I k b ru o => by
  obtain ⟨dd, hd, o2⟩ := out_lift o
  unfold allD at hd
  cases q : lotD d with
  | none => rw [q] at hd; cases hd
  | some p =>
    obtain ⟨lst, ds⟩ := p
    rw [q] at hd
    have hd : (if shpL 60 ds = true then (trL ds).map (fun bs => D.bl (bs.all id)) else none) = some dd := hd
    by_cases hsh : shpL 60 ds = true
    · rw [if_pos hsh] at hd
      cases q2 : trL ds with
      | none => rw [q2] at hd; cases hd
      | some bs =>
        rw [q2] at hd
        cases hd
        obtain ⟨a, vs, its, l', eu, hl, rv, rr, l, hz⟩ := (lot_reads (n := 60) I hs k b ru q (datL_of_shp _ _ hsh)).ex
        subst eu
        obtain ⟨h1, h2⟩ := tr_all q2 hsh (rp_len I k l)
        have e : (pyL ds).all PyData.truthy = bs.all id := by rw [← h1, List.all_map]; rfl
        cases lst with
        | true =>
          rw [if_pos rfl] at hl
          exact PySem.W.all_list_data (I.ok.hd hc) hl rr (plainAll_of_shp _ _ hsh) h2 fun h' tk hk => by rw [e]; exact EP.bl (κ := .froz) (I.kept (t' := tk) hk) k o2
        | false =>
          rw [if_neg Bool.false_ne_true] at hl
          exact PySem.W.all_tuple_data (I.ok.hd hc) hl rr (plainAll_of_shp _ _ hsh) h2 fun h' tk hk => by rw [e]; exact EP.bl (κ := .froz) (I.kept (t' := tk) hk) k o2
    · rw [if_neg hsh] at hd; cases hd
end
end Sm


set_option Elab.async false
set_option linter.all false
set_option maxRecDepth 100000
set_option maxHeartbeats 1000000
/-! Sm10: min, max, repr, isinstance; methods. -/
namespace Sm
open PySem PySem.Spec L2
mutual
theorem py_inj : ∀ (n m : Nat) (a b : D), shp n a = true → shp m b = true → a.py = b.py → a = b
  | n, m, .non, b, _, hb, h => by
    cases b with
    | non => rfl
    | obj i => simp [shp] at hb
    | glo i => simp [shp] at hb
    | raw i => simp [shp] at hb
    | scr i => simp [shp] at hb
    | _ => simp [D.py] at h
  | n, m, .bl x, b, _, hb, h => by
    cases b with
    | bl y => simp only [D.py] at h; cases h; rfl
    | _ => simp [D.py] at h
  | n, m, .int x, b, _, hb, h => by
    cases b with
    | int y => simp only [D.py] at h; cases h; rfl
    | _ => simp [D.py] at h
  | n, m, .str x, b, _, hb, h => by
    cases b with
    | str y => simp only [D.py] at h; cases h; rfl
    | _ => simp [D.py] at h
  | n, m, .tup xs, b, ha, hb, h => by
    cases b with
    | tup ys =>
      cases n with
      | zero => simp [shp] at ha
      | succ n =>
        cases m with
        | zero => simp [shp] at hb
        | succ m =>
          simp only [shp] at ha hb
          simp only [D.py] at h
          injection h with h
          rw [pyL_inj n m xs ys ha hb h]
    | _ => simp [D.py] at h
  | n, m, .lst xs, b, ha, hb, h => by
    cases b with
    | lst ys =>
      cases n with
      | zero => simp [shp] at ha
      | succ n =>
        cases m with
        | zero => simp [shp] at hb
        | succ m =>
          simp only [shp] at ha hb
          simp only [D.py] at h
          injection h with h
          rw [pyL_inj n m xs ys ha hb h]
    | _ => simp [D.py] at h
  | n, m, .dct kvs, b, ha, _, _ => by simp [shp] at ha
  | n, m, .obj i, b, ha, _, _ => by simp [shp] at ha
  | n, m, .glo i, b, ha, _, _ => by simp [shp] at ha
  | n, m, .raw i, b, ha, _, _ => by simp [shp] at ha
  | n, m, .scr i, b, ha, _, _ => by simp [shp] at ha
theorem pyL_inj : ∀ (n m : Nat) (a b : List D), shpL n a = true → shpL m b = true → pyL a = pyL b → a = b
  | n, m, [], b, _, _, h => by
    cases b with
    | nil => rfl
    | cons y ys => simp [pyL] at h
  | n, m, x :: xs, b, ha, hb, h => by
    cases b with
    | nil => simp [pyL] at h
    | cons y ys =>
      simp only [shpL, Bool.and_eq_true] at ha hb
      simp only [pyL, List.cons.injEq] at h
      rw [py_inj n m x y ha.1 hb.1 h.1, pyL_inj n m xs ys ha.2 hb.2 h.2]
end
/-- each two of them are alike, none of them None -/
def isNon : D → Bool
  | .non => true
  | _ => false
def alkL (ds : List D) : Bool := shpL 60 ds && ds.all fun x => !isNon x && ds.all fun y => PySem.W.alike x.py y.py
def minF (d : D) (ds : List D) : D := ds.foldl (fun a y => if D.lt y a = true then y else a) d
def maxF (d : D) (ds : List D) : D := ds.foldl (fun a y => if D.lt a y = true then y else a) d
def minD' (d : D) : Option D := (lotD d).bind fun p => match p.2 with
  | [] => none
  | x :: xs => if alkL (x :: xs) = true then some (minF x xs) else none
def maxD' (d : D) : Option D := (lotD d).bind fun p => match p.2 with
  | [] => none
  | x :: xs => if alkL (x :: xs) = true then some (maxF x xs) else none
theorem minF_py : ∀ (ds : List D) (d : D), PySem.W.minD d.py (pyL ds) = (minF d ds).py
  | [], d => rfl
  | y :: ds, d => by
    have := minF_py ds (if D.lt y d = true then y else d)
    unfold minF at this ⊢
    unfold PySem.W.minD at this ⊢
    rw [pyL, List.foldl_cons, List.foldl_cons, ← this]
    congr 1
    unfold D.lt
    split <;> rfl
theorem maxF_py : ∀ (ds : List D) (d : D), PySem.W.maxD d.py (pyL ds) = (maxF d ds).py
  | [], d => rfl
  | y :: ds, d => by
    have := maxF_py ds (if D.lt d y = true then y else d)
    unfold maxF at this ⊢
    unfold PySem.W.maxD at this ⊢
    rw [pyL, List.foldl_cons, List.foldl_cons, ← this]
    congr 1
    unfold D.lt
    split <;> rfl
theorem foldl_mem {α : Type} (f : α → α → α) (hf : ∀ a b, f a b = a ∨ f a b = b) : ∀ (xs : List α) (x : α), xs.foldl f x ∈ x :: xs
  | [], x => by simp
  | y :: xs, x => by
    rw [List.foldl_cons]
    have := foldl_mem f hf xs (f x y)
    rcases List.mem_cons.mp this with h | h
    · rcases hf x y with e | e
      · rw [h, e]; exact List.mem_cons_self
      · rw [h, e]; exact List.mem_cons_of_mem _ List.mem_cons_self
    · exact List.mem_cons_of_mem _ (List.mem_cons_of_mem _ h)
theorem minF_mem (d : D) (ds : List D) : minF d ds ∈ d :: ds := foldl_mem _ (fun a b => by by_cases q : D.lt b a = true <;> simp [q]) ds d
theorem maxF_mem (d : D) (ds : List D) : maxF d ds ∈ d :: ds := foldl_mem _ (fun a b => by by_cases q : D.lt a b = true <;> simp [q]) ds d
theorem isNon_py {n : Nat} {d : D} (h : isNon d = false) (hs : shp n d = true) : d.py ≠ .none := by
  cases d with
  | non => cases h
  | obj i => simp [shp] at hs
  | glo i => simp [shp] at hs
  | raw i => simp [shp] at hs
  | scr i => simp [shp] at hs
  | _ => simp only [D.py]; intro z; cases z
theorem shp_mem {n : Nat} {ds : List D} (h : shpL n ds = true) {d : D} (hd : d ∈ ds) : shp n d = true := by
  rw [shpL_all, List.all_eq_true] at h
  exact h d hd
theorem alkL_is {ds : List D} (h : alkL ds = true) : shpL 60 ds = true ∧ PySem.W.AlikeAll (pyL ds) := by
  unfold alkL at h
  simp only [Bool.and_eq_true, List.all_eq_true, Bool.not_eq_true'] at h
  obtain ⟨h1, h2⟩ := h
  refine ⟨h1, fun x hx y hy => ?_, fun x hx => ?_⟩
  · rw [pyL_map] at hx hy
    obtain ⟨a, ha, rfl⟩ := List.mem_map.mp hx
    obtain ⟨b, hb, rfl⟩ := List.mem_map.mp hy
    exact (h2 a ha).2 b hb
  · rw [pyL_map] at hx
    obtain ⟨a, ha, rfl⟩ := List.mem_map.mp hx
    exact isNon_py (h2 a ha).1 (shp_mem h1 ha)
section
variable {C : Cn}
theorem best_fin {pins : List (Addr × Obj)} {s : Shared} {σ : L2.St} {W : Wd} {st : Store} {Q : VK} {ds : List D} {vs : List V} {its : List Value} {l : List Addr} {m : D} {i : Nat} {u : Value} {h' : Heap} {tk : Nat} {bs : List Addr}
    (I : Inv C.X pins σ W.H s) (k : C.ok W st) (o : KEnd C .froz W Q m st) (hsh : shpL 60 ds = true) (hm : m ∈ ds) (rv : Vals vs its) (rr : ReadsAll s.heap its (pyL ds) l) (lr : RpL C.X.K C.X.mg W.as W.G ds vs)
    (hu : its.toArray[i]? = some u) (hr : Reads h' u m.py bs) (hk : ∀ b o, s.heap.get? b = some o → h'.get? b = some o) : EP C.X pins σ Q u { s with heap := h', toks := tk } := by
  have hu' : its[i]? = some u := by simpa using hu
  have hi : i < vs.length := by
    rw [rv.length]
    by_cases q : i < its.length
    · exact q
    · rw [List.getElem?_eq_none (by omega)] at hu'; cases hu'
  obtain ⟨w, hw, rw'⟩ := rv.get (List.getElem?_eq_getElem hi)
  rw [hu'] at hw
  cases hw
  obtain ⟨d, hd, rd⟩ := RpL.get lr (List.getElem?_eq_getElem hi)
  obtain ⟨bs2, r2, _⟩ := PySem.W.readsAll_at rr i u hu'
  have e1 : (pyL ds).getD i .none = d.py := by
    rw [pyL_map, List.getD_eq_getElem?_getD, List.getElem?_map, hd]
    rfl
  rw [e1] at r2
  have e2 := (Reads.unique (PyProof.Rows.Reads.keeps hk r2) _ _ hr).1
  have e3 : d = m := py_inj 60 60 d m (shp_mem hsh (List.mem_of_getElem? hd)) (shp_mem hsh hm) e2
  subst e3
  exact ⟨vs[i], W.H, I.kept (t' := tk) hk, rw', o _ W (.refl W) k rd⟩
theorem sf_min (hc : C.X.calm = true) (hs : Sysm C.X.K) (hu : C.X.A.units + 64 < cLine) : SFn C .froz (.builtin "min") (g1 fun d => lift (minD' d)) := sfn1 fun pins s σ W st d v u Q I k b ru o => by
  obtain ⟨dd, hd, o2⟩ := out_lift o
  unfold minD' at hd
  cases q : lotD d with
  | none => rw [q] at hd; cases hd
  | some p =>
    obtain ⟨lst, ds⟩ := p
    rw [q] at hd
    cases ds with
    | nil => cases hd
    | cons x xs =>
      have hd : (if alkL (x :: xs) = true then some (minF x xs) else none) = some dd := hd
      by_cases ha : alkL (x :: xs) = true
      · rw [if_pos ha] at hd
        cases hd
        obtain ⟨hsh, hal⟩ := alkL_is ha
        obtain ⟨a, vs, its, l', eu, hl, rv, rr, l, hz⟩ := (lot_reads (n := 60) I hs k b ru q (datL_of_shp _ _ hsh)).ex
        subst eu
        have hdp := depthL_of_dat 60 _ (datL_of_shp _ _ hsh)
        cases lst with
        | true =>
          rw [if_pos rfl] at hl
          exact PySem.W.min_list_data (I.ok.hd hc) hl rr hal (by show C.X.A.units + 1 + PyData.depthAll (pyL (x :: xs)) < cLine; omega) fun i v h' tk bs hv hr hk => best_fin I k o2 hsh (minF_mem x xs) rv rr l hv (by rw [← minF_py]; exact hr) hk
        | false =>
          rw [if_neg Bool.false_ne_true] at hl
          exact PySem.W.min_tuple_data (I.ok.hd hc) hl rr hal (by show C.X.A.units + 1 + PyData.depthAll (pyL (x :: xs)) < cLine; omega) fun i v h' tk bs hv hr hk => best_fin I k o2 hsh (minF_mem x xs) rv rr l hv (by rw [← minF_py]; exact hr) hk
      · rw [if_neg ha] at hd; cases hd
theorem sf_max (hc : C.X.calm = true) (hs : Sysm C.X.K) (hu : C.X.A.units + 64 < cLine) : SFn C .froz (.builtin "max") (g1 fun d => lift (maxD' d)) := sfn1 fun pins s σ W st d v u Q I k b ru o => by
  obtain ⟨dd, hd, o2⟩ := out_lift o
  unfold maxD' at hd
  cases q : lotD d with
  | none => rw [q] at hd; cases hd
  | some p =>
    obtain ⟨lst, ds⟩ := p
    rw [q] at hd
    cases ds with
    | nil => cases hd
    | cons x xs =>
      have hd : (if alkL (x :: xs) = true then some (maxF x xs) else none) = some dd := hd
      by_cases ha : alkL (x :: xs) = true
      · rw [if_pos ha] at hd
        cases hd
        obtain ⟨hsh, hal⟩ := alkL_is ha
        obtain ⟨a, vs, its, l', eu, hl, rv, rr, l, hz⟩ := (lot_reads (n := 60) I hs k b ru q (datL_of_shp _ _ hsh)).ex
        subst eu
        have hdp := depthL_of_dat 60 _ (datL_of_shp _ _ hsh)
        cases lst with
        | true =>
          rw [if_pos rfl] at hl
          exact PySem.W.max_list_data (I.ok.hd hc) hl rr hal (by show C.X.A.units + 1 + PyData.depthAll (pyL (x :: xs)) < cLine; omega) fun i v h' tk bs hv hr hk => best_fin I k o2 hsh (maxF_mem x xs) rv rr l hv (by rw [← maxF_py]; exact hr) hk
        | false =>
          rw [if_neg Bool.false_ne_true] at hl
          exact PySem.W.max_tuple_data (I.ok.hd hc) hl rr hal (by show C.X.A.units + 1 + PyData.depthAll (pyL (x :: xs)) < cLine; omega) fun i v h' tk bs hv hr hk => best_fin I k o2 hsh (maxF_mem x xs) rv rr l hv (by rw [← maxF_py]; exact hr) hk
      · rw [if_neg ha] at hd; cases hd
/-- min(a, b), max(a, b) of ints -/
def min2D (a b : D) : Option D := match a, b with
  | .int i, .int j => some (.int (if j < i then j else i))
  | _, _ => none
def max2D (a b : D) : Option D := match a, b with
  | .int i, .int j => some (.int (if j > i then j else i))
  | _, _ => none
theorem sf_min2 (hc : C.X.calm = true) : SFn C .froz (.builtin "min") (g2 fun a b => lift (min2D a b)) := sfn2 fun pins s σ W st d d2 v v2 u u2 Q I k b b2 ru ru2 o => by
  cases d with
  | int i =>
    cases d2 with
    | int j =>
      have e1 := b.int
      have e2 := b2.int
      subst e1 e2
      exact call_min2 hc pins s σ W.H _ [u, u2] Q I (.cons ru (.cons ru2 .nil)) ⟨i, j, rfl, Out.get o _ W (.refl W) k rk_int⟩
    | _ => exact (show False from o).elim
  | _ => exact (show False from o).elim
theorem sf_max2 (hc : C.X.calm = true) : SFn C .froz (.builtin "max") (g2 fun a b => lift (max2D a b)) := sfn2 fun pins s σ W st d d2 v v2 u u2 Q I k b b2 ru ru2 o => by
  cases d with
  | int i =>
    cases d2 with
    | int j =>
      have e1 := b.int
      have e2 := b2.int
      subst e1 e2
      exact call_max2 hc pins s σ W.H _ [u, u2] Q I (.cons ru (.cons ru2 .nil)) ⟨i, j, rfl, Out.get o _ W (.refl W) k rk_int⟩
    | _ => exact (show False from o).elim
  | _ => exact (show False from o).elim
/-! ### repr -/
def repD (d : D) : Option D := if (dat 60 d && d.py.showable && decide (d.py.shown.length ≤ line)) = true then some (.str d.py.shown) else none
theorem sf_repr (hs : Sysm C.X.K) (hu : C.X.A.units + 64 < cLine) (hgu : C.X.A.guards = some []) : SFn C .froz (.builtin "repr") (g1 fun d => lift (repD d)) := sfn1 fun pins s σ W st d v u Q I k b ru o => by
  obtain ⟨dd, hd, o2⟩ := out_lift o
  unfold repD at hd
  by_cases z : (dat 60 d && d.py.showable && decide (d.py.shown.length ≤ line)) = true
  · rw [if_pos z] at hd
    cases hd
    obtain ⟨z, z3⟩ := and2 z
    obtain ⟨z1, z2⟩ := and2 z
    have hln : d.py.shown.length ≤ sizeLine := by rw [← line_eq]; exact of_decide_eq_true z3
    obtain ⟨l, r, hl⟩ := b.reads I hs k ru z1
    have hdp := depth_of_dat 60 d z1
    have ref : ∀ a, u = .ref a → wpAny (model C.X.prog C.X.w) C.X.A (call (.builtin "repr") [u]) (EP C.X pins σ Q) C.X.xe s := fun a e => by
      subst e
      exact repr_of_reads' r z2 (fun _ => hl) hgu (by omega) (fun _ _ h => h) (fun h' t tk hk => EP.str (κ := .froz) (I.kept (t' := tk) hk) k o2) hln
    cases d with
    | non =>
      have e := b.non
      subst e; cases ru
      refine PySem.P.repr_of_none (EP.str (κ := .froz) (I.tok _) k ?_)
      simpa [D.py, PyData.shown] using o2
    | bl i =>
      have e := b.bl
      subst e; cases ru
      refine PySem.P.repr_of_bool (EP.str (κ := .froz) (I.tok _) k ?_)
      simpa [D.py, PyData.shown] using o2
    | int i =>
      have e := b.int
      subst e
      obtain ⟨t, rfl⟩ := ru
      refine PySem.P.repr_of_int (by simpa [D.py, PyData.showable] using z2) (EP.str (κ := .froz) (I.tok _) k ?_)
      simpa [D.py, PyData.shown] using o2
    | str i =>
      have e := b.str
      subst e
      obtain ⟨t, rfl⟩ := ru
      refine PySem.P.repr_of_str (EP.str (κ := .froz) (I.tok _) k ?_) (by simpa [D.py, PyData.shown] using hln)
      simpa [D.py, PyData.shown] using o2
    | tup xs =>
      obtain ⟨a, vs, ev, _⟩ := b.tup k
      subst ev
      exact ref a ru
    | lst xs =>
      obtain ⟨a, vs, ev, _⟩ := b.lst k
      subst ev
      exact ref a ru
    | dct kvs =>
      have : ∃ a, v = .ref a := by
        rcases b with h | ⟨a, ev, _⟩
        · simp only [Rp] at h
          obtain ⟨a, ev, _⟩ := h
          exact ⟨a, ev⟩
        · exact ⟨a, ev⟩
      obtain ⟨a, ev⟩ := this
      subst ev
      exact ref a ru
    | obj i => simp [dat] at z1
    | glo i => simp [dat] at z1
    | raw i => simp [dat] at z1
    | scr i => simp [dat] at z1
  · rw [if_neg z] at hd; cases hd
/-! ### isinstance -/
@[simp] def isaD (p : PyData → Bool) (d : D) : M D := if dat 60 d = true then ret (.bl (p d.py)) else halt
@[simp] def eIsa (p : PyData → Bool) (m : Ex) : Ex := fun env => bnd (m env) (isaD p)
/-- a class that isinstance is asked about -/
def IsaT (T : String) (p : PyData → Bool) : Prop := ∀ {prog : Program} {w : World} {A : Around} {E : Value → Shared → Prop} {s : Shared} {v : Value} {d : PyData} {as : List Addr} {Q : Value → Shared → Prop}, Reads s.heap v d as →
  (∀ tk, s.toks ≤ tk → Q (.bool (p d)) { s with toks := tk }) → wpAny (model prog w) A (call (.builtin "isinstance") [v, .type T]) Q E s
theorem isa_int : IsaT "int" PyData.isInt := fun r h => PySem.W.isinstance_int_data r h
theorem isa_bool : IsaT "bool" PyData.isBool := fun r h => PySem.W.isinstance_bool_data r h
theorem isa_str : IsaT "str" PyData.isStr := fun r h => PySem.W.isinstance_str_data r h
theorem isa_tuple : IsaT "tuple" PyData.isTuple := fun r h => PySem.W.isinstance_tuple_data r h
theorem isa_list : IsaT "list" PyData.isList := fun r h => PySem.W.isinstance_list_data r h
theorem isa_dict : IsaT "dict" PyData.isDict := fun r h => PySem.W.isinstance_dict_data r h
theorem se_isa {κ : Kd} {T : String} {p : PyData → Bool} {e : Expr} {me : Ex} {x : Str} {p1 p2 pos : Pos} (ht : IsaT T p) (hs : Sysm C.X.K) (hg : Gl C.X "isinstance") (hm : C.X.mg "isinstance" = none) (hgT : Gl C.X x) (hmT : C.X.mg x = none) (hv : bootBuiltins x = some (.type T)) (he : SE C κ e me)
    (hn : x ≠ "__name__" := by decide) (hdb : (x == ("__debug__" : Str)) = false := by decide)
    (h1 : starEach (e :: [.Name x p2]) C.X.env = (false, eval e C.X.env) :: starEach [.Name x p2] C.X.env := by rfl) (h2 : starEach [Expr.Name x p2] C.X.env = [(false, eval (.Name x p2) C.X.env)] := by rfl) (hpl : (backTo pos (starEach [Expr.Name x p2] C.X.env)).any (·.1) = false := by rfl) :
    SE C .froz (.Call (.Name "isinstance" p1) [e, .Name x p2] [] pos) (eIsa p me) :=
  SE.mk fun pins s σ env W st Q I R o => by
    refine wpAny_Call_Name_kw (ld_blt I hg hm PyProof.Rows.boot_isinstance (PyProof.Rows.callWith_builtin1 ?_ h1 hpl))
    rw [h1]
    show wpAny _ _ (spliced ((false, eval e C.X.env) :: backTo pos (starEach [Expr.Name x p2] C.X.env))) _ _ s
    refine Calls.spliced_cons (he.go I R ((Out.bnd o).imp fun d st1 o1 v u s1 W1 e1 k1 r1 I1 ru => ?_))
    have ha : PA C.X [.Name x p2] (tCons (tC (.ty T)) tNil) := pa_cons (pe_bltn hgT hmT hv rfl hn hdb) pa_nil h2
    refine thn (ha.run pos pins s1 σ W1.H (fun vs H => vs = [.ty T] ∧ H = W1.H) I1 ⟨rfl, rfl⟩) fun us s2 ⟨vs, H2, I2, r2, ev, eH⟩ => ?_
    subst ev eH
    obtain ⟨u2, rfl, ru2⟩ := vals1 r2
    cases ru2
    unfold isaD at o1
    by_cases z : dat 60 d = true
    · rw [if_pos z] at o1
      obtain ⟨l, r, _⟩ := r1.bor.reads I2 hs k1 ru z
      exact ht r fun tk _ => EP.bl (κ := .froz) (I2.tok tk) k1 fun z W' e' k' r' => (show KEnd C .froz W Q (.bl (p d.py)) st1 from o1) z W' (e1.trans e') k' r'
    · rw [if_neg z] at o1; exact (show False from o1).elim
end
end Sm


set_option Elab.async false
set_option linter.all false
set_option maxRecDepth 100000
set_option maxHeartbeats 1000000
/-! Sm11: methods; changes of one's own lists and of the store's cells; is. -/
namespace Sm
open PySem PySem.Spec L2
def tyN : D → Option String
  | .lst _ => some "list"
  | .scr _ => some "list"
  | .tup _ => some "tuple"
  | .str _ => some "str"
  | _ => none
def eMt (km : D → Option (String × String)) (g : D → List D → M D) (mo : Ex) (ml : Lx) : Ex := fun env => bnd (mo env) fun d => if (km d).isSome = true then bnd (ml env) (g d) else halt
section
variable {C : Cn}
theorem ty_of {pins : List (Addr × Obj)} {s : Shared} {σ : L2.St} {W : Wd} {st : Store} {d : D} {v : V} {u : Value} {T : String} (I : Inv C.X pins σ W.H s) (k : C.ok W st) (b : Bor C.X.K C.X.mg W d v) (r : RelV v u) (h : tyN d = some T) :
    s.TypeIs u T ∧ ∀ a, u = .ref a → ∃ ob, s.heap.get? a = some ob ∧ ob.dict = none := by
  have lst : ∀ {a : Addr} {vs : List V}, SqL C.X.K W.H a vs → u = .ref a → s.TypeIs u "list" ∧ ∀ a, u = .ref a → ∃ ob, s.heap.get? a = some ob ∧ ob.dict = none := fun {a vs} hq e => by
    subst e
    obtain ⟨its, _, pl, _⟩ := I.list hq
    refine ⟨pl.isList.typeIs, fun a' e => ?_⟩
    cases e
    obtain ⟨o, n, e, c, hd, _⟩ := pl
    exact ⟨o, e, hd⟩
  cases d with
  | lst xs =>
    cases h
    obtain ⟨a, vs, ev, hp, l⟩ := b.lst k
    subst ev
    exact lst (.inl (.inl hp)) r
  | scr xs =>
    cases h
    obtain ⟨a, vs, ev, hp, l⟩ := b.scr k
    subst ev
    exact lst hp r
  | tup xs =>
    cases h
    have f := b.froz_tup
    have f' : Rp _ _ _ _ (.tup xs) v := f
    simp only [Rp] at f'
    obtain ⟨a, vs, ev, sq, dl, l⟩ := f'
    subst ev
    cases r
    obtain ⟨its, _, p, _⟩ := I.tuple (SqT.up k.sub sq)
    refine ⟨(show s.heap.IsTuple a its.toArray from p).typeIs, fun a' e => ?_⟩
    cases e
    rcases dl with ⟨o, w, e, hd⟩ | ⟨o, e, hd⟩
    · obtain ⟨e2, _⟩ := I.hok a _ (k.sub _ _ e)
      exact ⟨o, e2, hd⟩
    · exact ⟨o, I.kIn a o e, hd⟩
  | str z =>
    cases h
    have ev := b.str
    subst ev
    obtain ⟨t, rfl⟩ := r
    exact ⟨typeIs_str s z t, fun _ e => nomatch e⟩
  | _ => cases h
/-- o.name(e, ..) -/
theorem se_mt {κ κr : Kd} {name : Str} {km : D → Option (String × String)} {g : D → List D → M D} {o e : Expr} {es : List Expr} {mo : Ex} {ml : Lx} {apos cpos : Pos}
    (hk : ∀ d T id, km d = some (T, id) → PlainAttrs T ∧ Slot T name id ∧ typeOf (.builtin id) = pure (.type "method_descriptor") ∧ tyN d = some T)
    (hf : ∀ (pins : List (Addr × Obj)) (s : Shared) (σ : L2.St) (W : Wd) (st : Store) (d : D) (v : V) (u : Value) (ds : List D) (vs : List V) (us : List Value) (Q : VK) (T id : String), km d = some (T, id) → Inv C.X pins σ W.H s → C.ok W st → Bor C.X.K C.X.mg W d v → RelV v u →
      BorL C.X.K C.X.mg W ds vs → Vals vs us → Out C σ W (g d ds st) (KEnd C κ W Q) → wpAny (model C.X.prog C.X.w) C.X.A (call (.builtin id) (u :: us)) (EP C.X pins σ Q) C.X.xe s)
    (ho : SE C κr o mo) (ha : SB C (e :: es) ml) (hbase : attributeBase o name C.X.env (eval o C.X.env) = eval o C.X.env := by rfl)
    (hfew : ((backTo cpos (starEach (e :: es) C.X.env)).all (fun x => !x.1) && (backToKw cpos (keywordEach [] C.X.env)).all (fun x => x.1.isSome)
      && decide ((e :: es).length + ([] : List Keyword).length + (if ([] : List Keyword).isEmpty then 0 else 1) < 30)) = true := by rfl)
    (hline : (apos.endLine == cpos.line) = true := by rfl) (hs : starEach (e :: es) C.X.env = (false, eval e C.X.env) :: starEach es C.X.env := by rfl) (hplain : (backTo cpos (starEach es C.X.env)).any (·.1) = false := by rfl) :
    SE C κ (.Call (.Attribute o name apos) (e :: es) [] cpos) (eMt km g mo ml) :=
  SE.mk fun pins s σ env W st Q I R oo => by
    refine wpAny_Call_method_late hbase hfew hline rfl (ho.go I R ((Out.bnd oo).imp fun d st1 o1 v u s1 W1 e1 k1 r1 I1 ru => ?_))
    cases hq : km d with
    | none =>
      rw [hq] at o1
      exact (show False from o1).elim
    | some Ti =>
      obtain ⟨T, id⟩ := Ti
      rw [hq] at o1
      have o1 : Out C σ W (bnd (ml env) (g d) st1) (KEnd C κ W Q) := o1
      obtain ⟨pa, slot, hty, htn⟩ := hk d T id hq
      obtain ⟨h1, h2⟩ := ty_of I1 k1 r1.bor ru htn
      refine ⟨T, id, pa, slot, hty, h1, h2, ?_⟩
      have hA := ha.go (pos := cpos) (Q := fun us s2 => wpAny (model C.X.prog C.X.w) C.X.A (call (.builtin id) (u :: us)) (EP C.X pins σ Q) C.X.xe s2) I1 (R.up e1 k1) (((Out.bnd o1).up e1).imp fun ds st2 o2 vs us s2 W2 e2 k2 r2 I2 rv =>
        hf pins s2 σ W2 st2 d v u ds vs us Q T id hq I2 k2 (r1.bor.ext e2) ru r2 rv ((o2.up (e1.trans e2)).imp fun dd st3 q z W3 e3 k3 r3 => q z W3 ((e1.trans e2).trans e3) k3 (r3.down (e1.trans e2))))
      rw [hs] at hA ⊢
      refine Calls.callWith_builtin (by show (false || (backTo cpos (starEach es C.X.env)).any (·.1)) = false; rw [hplain]; rfl) (Calls.evalArgs_plain ?_)
      exact hA
/-- by one argument -/
theorem mt1 {κ : Kd} {f : Value} {g : D → D → M D} {d : D} {u : Value} {ds : List D} {vs : List V} {us : List Value} {pins : List (Addr × Obj)} {s : Shared} {σ : L2.St} {W : Wd} {st : Store} {Q : VK} (b : BorL C.X.K C.X.mg W ds vs) (r : Vals vs us)
    (o : Out C σ W (g1 (g d) ds st) (KEnd C κ W Q)) (h : ∀ d2 v2 u2, Bor C.X.K C.X.mg W d2 v2 → RelV v2 u2 → Out C σ W (g d d2 st) (KEnd C κ W Q) → wpAny (model C.X.prog C.X.w) C.X.A (call f [u, u2]) (EP C.X pins σ Q) C.X.xe s) :
    wpAny (model C.X.prog C.X.w) C.X.A (call f (u :: us)) (EP C.X pins σ Q) C.X.xe s := by
  match ds, b, o with
  | [], _, o => exact (show False from o).elim
  | [d2], b, o =>
    obtain ⟨v2, vr, ev, b1, b2⟩ := b
    obtain rfl : vr = [] := b2
    subst ev
    obtain ⟨u2, rfl, ru⟩ := vals1 r
    exact h d2 v2 u2 b1 ru o
  | _ :: _ :: _, _, o => exact (show False from o).elim
/-! ### count -/
def kCount : D → Option (String × String)
  | .lst _ => some ("list", "list.count")
  | .tup _ => some ("tuple", "tuple.count")
  | _ => none
def countD (d x : D) : Option D := (lotD d).bind fun p => if (shpL 60 p.2 && shp 60 x) = true then some (.int (p.2.countP fun y => D.eqv y x : Nat)) else none
theorem count_py (x : D) : ∀ ds : List D, ((pyL ds).countP fun y => PyData.eqv y x.py) = ds.countP fun y => D.eqv y x
  | [] => rfl
  | y :: ds => by simp only [pyL, List.countP_cons, count_py x ds, D.eqv]
theorem se_count {κr : Kd} {o e : Expr} {mo : Ex} {ml : Lx} {apos cpos : Pos} (hs : Sysm C.X.K) (hu : C.X.A.units + 64 < cLine)
    (ho : SE C κr o mo) (ha : SB C [e] ml) (hbase : attributeBase o "count" C.X.env (eval o C.X.env) = eval o C.X.env := by rfl)
    (hfew : ((backTo cpos (starEach [e] C.X.env)).all (fun x => !x.1) && (backToKw cpos (keywordEach [] C.X.env)).all (fun x => x.1.isSome)
      && decide ([e].length + ([] : List Keyword).length + (if ([] : List Keyword).isEmpty then 0 else 1) < 30)) = true := by rfl)
    (hline : (apos.endLine == cpos.line) = true := by rfl) (hss : starEach [e] C.X.env = (false, eval e C.X.env) :: starEach [] C.X.env := by rfl) (hplain : (backTo cpos (starEach [] C.X.env)).any (·.1) = false := by rfl) :
    SE C .froz (.Call (.Attribute o "count" apos) [e] [] cpos) (eMt kCount (fun d => g1 fun x => lift (countD d x)) mo ml) := by
  refine se_mt (fun d T id h => ?_) (fun pins s σ W st d v u ds vs us Q T id hk I k b ru bl rv oo => ?_) ho ha hbase hfew hline hss hplain
  · cases d with
    | lst xs => cases h; exact ⟨F.plainAttrs_list, F.slot_list_count, F.type_list_count, rfl⟩
    | tup xs => cases h; exact ⟨F.plainAttrs_tuple, F.slot_tuple_count, F.type_tuple_count, rfl⟩
    | _ => cases h
  · refine mt1 (g := fun d x => lift (countD d x)) (d := d) bl rv oo fun d2 v2 u2 b2 ru2 o2 => ?_
    obtain ⟨dd, hd, o3⟩ := out_lift o2
    unfold countD at hd
    cases q : lotD d with
    | none => rw [q] at hd; cases hd
    | some p =>
      obtain ⟨lst, xs⟩ := p
      rw [q] at hd
      have hd : (if (shpL 60 xs && shp 60 d2) = true then some (D.int (xs.countP fun y => D.eqv y d2 : Nat)) else none) = some dd := hd
      by_cases z : (shpL 60 xs && shp 60 d2) = true
      · rw [if_pos z] at hd
        cases hd
        obtain ⟨z1, z2⟩ := and2 z
        obtain ⟨a, vs, its, l', eu, hl, rvs, rr, l, hz⟩ := (lot_reads (n := 60) I hs k b ru q (datL_of_shp _ _ z1)).ex
        obtain ⟨l2, r2, _⟩ := b2.reads I hs k ru2 (dat_of_shp _ _ z2)
        subst eu
        have hdp := dep60 z2
        cases d with
        | lst ys =>
          cases q
          cases hk
          rw [if_pos rfl] at hl
          exact SeqAt.count_list_data hl rr r2 (plainAll_of_shp _ _ z1) (plain_of_shp _ _ z2) (by omega) (by rw [count_py]; exact EP.int (κ := .froz) (I.tok _) k o3)
        | tup ys =>
          cases q
          cases hk
          rw [if_neg Bool.false_ne_true] at hl
          exact SeqAt.count_tuple_data hl rr r2 (plainAll_of_shp _ _ z1) (plain_of_shp _ _ z2) (by omega) (by rw [count_py]; exact EP.int (κ := .froz) (I.tok _) k o3)
        | _ => cases hk
      · rw [if_neg z] at hd; cases hd
/-! ### is -/
def isD' (a b : D) : Option Bool := match a, b with
  | .bl i, .bl j => some (decide (i = j))
  | .non, .bl _ => some false
  | .bl _, .non => some false
  | .non, .non => some true
  | .int _, .non => some false
  | .str _, .non => some false
  | .tup _, .non => some false
  | .lst _, .non => some false
  | _, _ => none
def isOp (a b : D) : Option D := (isD' a b).map D.bl
def isntOp (a b : D) : Option D := (isD' a b).map fun k => D.bl (!k)
theorem bor_ref {W : Wd} {st : Store} {d : D} {v : V} (k : C.ok W st) (b : Bor C.X.K C.X.mg W d v) (h : (match d with | .tup _ => true | .lst _ => true | _ => false) = true) : ∃ a, v = .ref a := by
  cases d with
  | tup xs => obtain ⟨a, _, e, _⟩ := b.tup k; exact ⟨a, e⟩
  | lst xs => obtain ⟨a, _, e, _⟩ := b.lst k; exact ⟨a, e⟩
  | _ => cases h
theorem is_non {W : Wd} {st : Store} {a : D} {x : V} {t : Bool} (k : C.ok W st) (b : Bor C.X.K C.X.mg W a x) (h : isD' a .non = some t) : decide (x = .non) = t := by
  cases a with
  | non => have e := b.non; subst e; cases h; rfl
  | bl i => have e := b.bl; subst e; cases h; rfl
  | int i => have e := b.int; subst e; cases h; rfl
  | str i => have e := b.str; subst e; cases h; rfl
  | tup xs => obtain ⟨p, e⟩ := bor_ref k b rfl; subst e; cases h; rfl
  | lst xs => obtain ⟨p, e⟩ := bor_ref k b rfl; subst e; cases h; rfl
  | _ => cases h
theorem sop_is : SOp C .froz (compareOp .Is) (pur isOp) := by
  intro pins s σ W st d1 d2 x y u v Q I k b1 b2 ru rv o
  obtain ⟨dd, hd, o2⟩ := out_lift o
  unfold isOp at hd
  cases q : isD' d1 d2 with
  | none => rw [q] at hd; cases hd
  | some t =>
    rw [q] at hd
    cases hd
    cases d2 with
    | non =>
      have e := b2.non
      subst e
      refine op_isN pins s σ W.H _ _ u v Q I ru rv ⟨rfl, ?_⟩
      rw [is_non k b1 q]
      exact o2 _ W (.refl W) k rk_bl
    | bl j =>
      have e := b2.bl
      subst e
      cases d1 with
      | bl i =>
        have e1 := b1.bl
        subst e1
        cases q
        exact op_isBl pins s σ W.H _ _ u v Q I ru rv ⟨i, j, rfl, rfl, o2 _ W (.refl W) k rk_bl⟩
      | non =>
        have e1 := b1.non
        subst e1
        cases q
        cases ru
        cases rv
        exact wpAny_is_other rfl (fun z => nomatch z) ⟨.bl false, W.H, I, rfl, o2 _ W (.refl W) k rk_bl⟩
      | _ => cases q
    | _ => cases d1 <;> cases q
theorem sop_isnt : SOp C .froz (compareOp .IsNot) (pur isntOp) := by
  intro pins s σ W st d1 d2 x y u v Q I k b1 b2 ru rv o
  obtain ⟨dd, hd, o2⟩ := out_lift o
  unfold isntOp at hd
  cases q : isD' d1 d2 with
  | none => rw [q] at hd; cases hd
  | some t =>
    rw [q] at hd
    cases hd
    cases d2 with
    | non =>
      have e := b2.non
      subst e
      refine op_notN pins s σ W.H _ _ u v Q I ru rv ⟨rfl, ?_⟩
      rw [is_non k b1 q]
      exact o2 _ W (.refl W) k rk_bl
    | bl j =>
      have e := b2.bl
      subst e
      cases d1 with
      | bl i =>
        have e1 := b1.bl
        subst e1
        cases q
        exact op_notBl pins s σ W.H _ _ u v Q I ru rv ⟨i, j, rfl, rfl, o2 _ W (.refl W) k rk_bl⟩
      | non =>
        have e1 := b1.non
        subst e1
        cases q
        cases ru
        cases rv
        exact wpAny_isNot_other rfl (fun z => nomatch z) ⟨.bl true, W.H, I, rfl, o2 _ W (.refl W) k rk_bl⟩
      | _ => cases q
    | _ => cases d1 <;> cases q
end
end Sm


set_option Elab.async false
set_option linter.all false
set_option maxRecDepth 100000
set_option maxHeartbeats 1000000
/-! Sm12: one's own lists changed, the store's cells changed, new cells; chains; while. -/
namespace Sm
open PySem PySem.Spec L2
section
variable {C : Cn} {env : En} {W W' : Wd} {st st' : Store} {σ : L2.St} {i : Nat}
theorem SR.updOwn {d : D} {a : Addr} {ds : List D} {vs : List V} (R : SR C env W st σ) (he : env i = some (true, d)) (ha : σ[i]? = some (some (.ref a))) (r : RpL C.X.K C.X.mg W.as W.G ds vs) : SR C (env.put i true (.lst ds)) (W.new a (.lst vs)) st σ := by
  obtain ⟨v, h1, h2⟩ := R.slot i true d he
  rw [if_pos rfl] at h2
  obtain ⟨a', ev, n0, ng, na, t⟩ := h2
  rw [ha] at h1
  cases h1
  cases ev
  obtain ⟨u0, hu0, hb0⟩ := t.nb
  refine ⟨set_ext R.ext n0, R.len, set_ok R.ok ng na hu0 hb0, fun j b x h => ?_, fun j m x y c hjk hj hk g1 g2 => ?_⟩
  · by_cases q : j = i
    · subst q
      rw [put_same] at h
      obtain ⟨rfl, rfl⟩ := Prod.mk.inj (Option.some.inj h)
      exact ⟨.ref a, ha, by rw [if_pos rfl]; exact ⟨a, rfl, n0, ng, na, vs, upd_same, r⟩⟩
    · rw [put_ne q] at h
      obtain ⟨w, h3, h4⟩ := R.slot j b x h
      refine ⟨w, h3, ?_⟩
      cases b with
      | false => rw [if_neg Bool.false_ne_true] at h4 ⊢; exact h4
      | true =>
        rw [if_pos rfl] at h4 ⊢
        obtain ⟨c, ec, m0, mg, ma, tc⟩ := h4
        subst ec
        have hne : c ≠ a := fun e => R.dis j i x d a q h he (by rw [h3, e]) ha
        refine ⟨c, rfl, m0, mg, ma, ?_⟩
        have keep : ∀ {o : HO}, W.H c = some o → (W.new a (.lst vs)).H c = some o := fun {o} e => by
          show upd W.H a (.lst vs) c = some o
          rw [upd_ne hne]; exact e
        cases x with
        | lst xs => obtain ⟨ws, e1, e2⟩ := tc; exact ⟨ws, keep e1, e2⟩
        | dct xs =>
          rcases tc with ⟨ws, e1, e2⟩ | ⟨ws, e1, e2⟩
          · exact .inl ⟨ws, keep e1, e2⟩
          · exact .inr ⟨ws, keep e1, e2⟩
        | _ => exact False.elim tc
  · have n : ∀ {j x}, env.put i true (.lst ds) j = some (true, x) → ∃ x', env j = some (true, x') := fun {j x} h => by
      by_cases q : j = i
      · subst q; exact ⟨d, he⟩
      · rw [put_ne q] at h; exact ⟨x, h⟩
    obtain ⟨x', hj⟩ := n hj
    obtain ⟨y', hk⟩ := n hk
    exact R.dis j m x' y' c hjk hj hk g1 g2
/-- a cell of the store changed -/
theorem cell_ok {K : PySem.W.Frag} {mg : Str → Option Value} {n : Nat} {a : Addr} {ds : List D} {vs : List V} (k : W.Ok K mg st) (ha : W.as[n]? = some a) (r : RpL K mg W.as W.G ds vs) : (W.new a (.lst vs)).Ok K mg (st.set n ds) := by
  have hn : n < st.length := by
    rw [← k.len]
    by_cases q : n < W.as.length
    · exact q
    · rw [List.getElem?_eq_none (by omega)] at ha; cases ha
  have ng : W.G a = none := k.dis a (List.mem_of_getElem? ha)
  obtain ⟨a', vs', ha', hH', _⟩ := k.cel n st[n] (List.getElem?_eq_getElem hn)
  obtain rfl : a = a' := Option.some.inj (ha.symm.trans ha')
  refine ⟨fun b u h => ?_, k.nod, k.dis, by rw [List.length_set]; exact k.len, fun j xs h => ?_, tabs_upd k.tab hH' rfl, k.tabG⟩
  · have h' : W.G b = some u := h
    show upd W.H a _ b = some u
    rw [upd_ne (show b ≠ a from fun z => by rw [z, ng] at h'; cases h')]
    exact k.sub b u h'
  · by_cases q : n = j
    · subst q
      rw [List.getElem?_set_self hn] at h
      cases h
      exact ⟨a, vs, ha, upd_same, r⟩
    · rw [List.getElem?_set_ne q] at h
      obtain ⟨b, ws, h1, h2, h3⟩ := k.cel j xs h
      refine ⟨b, ws, h1, ?_, h3⟩
      show upd W.H a _ b = some _
      rw [upd_ne (show b ≠ a from fun z => ?_)]
      · exact h2
      · subst z
        have h1' := List.getElem?_eq_some_iff.mp h1
        have ha' := List.getElem?_eq_some_iff.mp ha
        obtain ⟨l1, e1⟩ := h1'
        obtain ⟨l2, e2⟩ := ha'
        have pw := List.pairwise_iff_getElem.mp k.nod
        rcases Nat.lt_or_gt_of_ne q with z | z
        · exact pw n j l2 l1 z (e2.trans e1.symm)
        · exact pw j n l1 l2 z (e1.trans e2.symm)
theorem cell_ext {n : Nat} {a : Addr} {o : HO} (ha : W.as[n]? = some a) (h : W.H a ≠ none) (ho : nT o = true := by rfl) : Ext W (W.new a o) := by
  refine ⟨fun _ _ h => h, fun _ h q => absurd h q, ⟨[], by show W.as = W.as ++ []; simp⟩, fun _ h => .inl h, fun b u h n _ => ?_, rfl, fun b h' => ?_⟩
  · show upd W.H a o b = some u
    rw [upd_ne (show b ≠ a from fun z => n (z ▸ List.mem_of_getElem? ha))]; exact h
  · have h' : Nn (upd W.H a o b) := h'
    by_cases q : b = a
    · subst q; exact (nn_no h' upd_same ho).elim
    · rw [upd_ne q] at h'; exact h'
/-- the own list at i becomes a new cell -/
theorem SR.pin {ds : List D} (R : SR C env W st σ) (he : env i = some (true, .lst ds)) : ∃ W', W'.H = W.H ∧ Lat W W' ∧ SR C (env.put i false (.obj st.length)) W' (st ++ [ds]) σ := by
  obtain ⟨v, h1, h2⟩ := R.slot i true _ he
  rw [if_pos rfl] at h2
  obtain ⟨a, ev, n0, ng, na, vs, hH, l⟩ := h2
  subst ev
  have pre : ∀ (j : Nat) b, W.as[j]? = some b → (W.as ++ [a])[j]? = some b := pre_of rfl
  have up : ∀ {d v}, C.rp W d v → C.rp { W with as := W.as ++ [a] } d v := fun {d v} h => Rp.up pre (fun _ _ h => h) d v h
  have last : (W.as ++ [a])[st.length]? = some a := by rw [← R.ok.len]; simp
  refine ⟨{ W with as := W.as ++ [a] }, rfl, ⟨fun _ _ h => h, ⟨[a], rfl⟩⟩, ?_, R.len, ?_, fun j b x h => ?_, fun j m x y c hjk hj hk g1 g2 => ?_⟩
  · refine ⟨R.ext.g, R.ext.gn, ?_, fun b hb => ?_, fun b o h n z => R.ext.h b o h n z, R.ext.t, R.ext.hn⟩
    · obtain ⟨l', q⟩ := R.ext.as
      exact ⟨l' ++ [a], by show W.as ++ [a] = _; rw [q, List.append_assoc]⟩
    · rcases List.mem_append.mp hb with z | z
      · exact R.ext.asn b z
      · rw [List.mem_singleton.mp z]; exact .inr n0
  · refine ⟨R.ok.sub, ?_, fun b hb => ?_, by simp [R.ok.len], fun j xs h => ?_, R.ok.tab, R.ok.tabG⟩
    · refine List.nodup_append.mpr ⟨R.ok.nod, by simp, fun b hb c hc => ?_⟩
      rw [List.mem_singleton.mp hc]
      exact fun z => na (z ▸ hb)
    · rcases List.mem_append.mp hb with z | z
      · exact R.ok.dis b z
      · rw [List.mem_singleton.mp z]; exact ng
    · by_cases q : j < st.length
      · rw [List.getElem?_append_left q] at h
        obtain ⟨b, ws, h3, h4, h5⟩ := R.ok.cel j xs h
        exact ⟨b, ws, pre j b h3, h4, RpL.up pre (fun _ _ h => h) xs ws h5⟩
      · have e : j = st.length := by
          by_cases z : j < (st ++ [ds]).length
          · simp at z; omega
          · rw [List.getElem?_eq_none (by omega)] at h; cases h
        subst e
        simp at h
        subst h
        exact ⟨a, vs, last, hH, RpL.up pre (fun _ _ h => h) _ vs l⟩
  · by_cases q : j = i
    · subst q
      rw [put_same] at h
      obtain ⟨rfl, rfl⟩ := Prod.mk.inj (Option.some.inj h)
      refine ⟨.ref a, h1, ?_⟩
      rw [if_neg Bool.false_ne_true]
      show Rp _ _ _ _ (.obj st.length) _
      simp only [Rp]
      exact ⟨a, rfl, last⟩
    · rw [put_ne q] at h
      obtain ⟨w, h3, h4⟩ := R.slot j b x h
      refine ⟨w, h3, ?_⟩
      cases b with
      | false => rw [if_neg Bool.false_ne_true] at h4 ⊢; exact up h4
      | true =>
        rw [if_pos rfl] at h4 ⊢
        obtain ⟨c, ec, m0, mg, ma, tc⟩ := h4
        subst ec
        have hne : c ≠ a := fun e => R.dis j i x _ a q h he (by rw [h3, e]) h1
        refine ⟨c, rfl, m0, mg, fun z => ?_, ?_⟩
        · rcases List.mem_append.mp z with z | z
          · exact ma z
          · exact hne (List.mem_singleton.mp z)
        · cases x with
          | lst xs => obtain ⟨ws, e1, e2⟩ := tc; exact ⟨ws, e1, RpL.up pre (fun _ _ h => h) xs ws e2⟩
          | dct xs =>
            rcases tc with ⟨ws, e1, e2⟩ | ⟨ws, e1, e2⟩
            · exact .inl ⟨ws, e1, RpK.up pre (fun _ _ h => h) xs ws e2⟩
            · exact .inr ⟨ws, e1, RpT.up pre (fun _ _ h => h) xs ws e2⟩
          | _ => exact False.elim tc
  · have n : ∀ {j x}, env.put i false (.obj st.length) j = some (true, x) → env j = some (true, x) := fun {j x} h => by
      by_cases q : j = i
      · subst q; rw [put_same] at h; cases h
      · rw [put_ne q] at h; exact h
    exact R.dis j m x y c hjk (n hj) (n hk) g1 g2
end
/-- from here on the own list at i is a cell of the store -/
def sPin (i : Nat) (m : Sx) : Sx := fun env st => match env i with
  | some (true, .lst ds) => m (env.put i false (.obj st.length)) (st ++ [ds])
  | _ => .stuck
def ownL : Option (Bool × D) → Option (List D)
  | some (true, .lst xs) => some xs
  | _ => none
def withOwn {α : Type} (o : Option (List D)) (f : List D → M α) : M α := match o with
  | some xs => f xs
  | none => halt
def sApp (i : Nat) (m : Ex) : Sx := fun env => withOwn (ownL (env i)) fun xs => bnd (m env) fun d => if xs.length < line then ret (.nx (env.put i true (.lst (xs ++ [d])))) else halt
def extL (i : Nat) (xs : List D) (d : D) : Sx := fun env => match d with
  | .lst ys => if xs.length + ys.length ≤ line then ret (.nx (env.put i true (.lst (xs ++ ys)))) else halt
  | _ => halt
def sExt (i : Nat) (m : Ex) : Sx := fun env => withOwn (ownL (env i)) fun xs => bnd (m env) fun d => extL i xs d env
@[simp] def setAt (i : Nat) (d k : D) : Sx := fun env => match env i, k with
  | some (true, .lst xs), .int k => (match ixN xs.length k with
    | some j => ret (.nx (env.put i true (.lst (xs.set j d))))
    | none => halt)
  | some (false, .obj n), .int k => fun st => (match st[n]? with
    | some xs => (match ixN xs.length k with
      | some j => .ok (.nx env) (st.set n (xs.set j d))
      | none => .stuck)
    | none => .stuck)
  | _, _ => halt
@[simp] def sSetAt (i : Nat) (ix m : Ex) : Sx := fun env => match env i with
  | none => halt
  | some _ => bnd (m env) fun d => bnd (ix env) fun k => setAt i d k env
section
variable {C : Cn} {κ κe : Kd} {s : Stmt} {ss : List Stmt} {m : Sx} {e : Expr} {me : Ex} {pos apos cpos px : Pos} {i : Nat} {x : Str} {De : Ends} {σ : L2.St} {H : Hp}
theorem pin_go (h : TSo C κ (sPin i m) De σ H) : TSo C κ m De σ H := by
  obtain ⟨env, W, st, e, R, o⟩ := h
  have o : OutS C (match env i with | some (true, .lst ds) => m (env.put i false (.obj st.length)) (st ++ [ds]) | _ => .stuck) (kFl C κ De W) := o
  split at o
  · rename_i ds he
    obtain ⟨W', h1, l, R'⟩ := R.pin he
    exact ⟨_, W', _, h1.trans e, R', o.imp fun g st2 h => h.lat l⟩
  · exact False.elim o
theorem ss_pins (h : SSs C κ ss m) : SSs C κ ss (sPin i m) := PSs.imp h fun D σ H => pin_go
theorem RpL.one {K : PySem.W.Frag} {mg : Str → Option Value} {as : List Addr} {G : Hp} {d : D} {v : V} (h : Rp K mg as G d v) : RpL K mg as G [d] [v] := by
  simp only [RpL]; exact ⟨v, [], rfl, h, rfl⟩
theorem RpL.set {K : PySem.W.Frag} {mg : Str → Option Value} {as : List Addr} {G : Hp} {d : D} {v : V} (h : Rp K mg as G d v) : ∀ {ds : List D} {vs : List V} (j : Nat), RpL K mg as G ds vs → RpL K mg as G (ds.set j d) (vs.set j v)
  | [], vs, j, r => by
    simp only [RpL] at r
    subst r
    simp [RpL]
  | x :: ds, vs, 0, r => by
    simp only [RpL] at r
    obtain ⟨w, r', e, _, h2⟩ := r
    subst e
    simp only [List.set_cons_zero, RpL]
    exact ⟨v, r', rfl, h, h2⟩
  | x :: ds, vs, j + 1, r => by
    simp only [RpL] at r
    obtain ⟨w, r', e, h1, h2⟩ := r
    subst e
    simp only [List.set_cons_succ, RpL]
    exact ⟨w, _, rfl, h1, RpL.set h j h2⟩
theorem own_at {env : En} {W W1 : Wd} {st st1 : Store} {xs : List D} (R : SR C env W st σ) (he : env i = some (true, .lst xs)) : ∃ a vs, σ[i]? = some (some (.ref a)) ∧ W.H a = some (.lst vs) ∧ RpL C.X.K C.X.mg W.as W.G xs vs := by
  obtain ⟨v, h1, h2⟩ := R.slot i true _ he
  rw [if_pos rfl] at h2
  obtain ⟨a, ev, _, _, _, vs, hH, l⟩ := h2
  exact ⟨a, vs, by rw [h1, ev], hH, l⟩
theorem ownL_is {o : Option (Bool × D)} {xs : List D} (h : ownL o = some xs) : o = some (true, .lst xs) := by
  cases o with
  | none => cases h
  | some p =>
    obtain ⟨b, d⟩ := p
    cases b with
    | false => cases h
    | true =>
      cases d with
      | lst ys => cases h; rfl
      | _ => cases h
theorem own_case {α : Type} {o : Option (Bool × D)} {st : Store} {f : List D → M α} {k : α → Store → Prop} (h : OutS C (withOwn (ownL o) f st) k) : ∃ xs, o = some (true, .lst xs) ∧ OutS C (f xs st) k := by
  cases q : ownL o with
  | none => rw [q] at h; exact False.elim h
  | some xs => rw [q] at h; exact ⟨xs, ownL_is q, h⟩
theorem ss_app (n : Nm C i x) (hv : Vis C.X.env.scope x) (he : SE C .froz e me) (hd : (x == ("__debug__" : Str)) = false := by decide) (hcd : (x == ("__classdict__" : Str)) = false := by decide)
    (hbase : attributeBase (.Name x px) "append" C.X.env (eval (.Name x px) C.X.env) = eval (.Name x px) C.X.env := by rfl)
    (hfew : ((backTo cpos (starEach [e] C.X.env)).all (fun x => !x.1) && (backToKw cpos (keywordEach [] C.X.env)).all (fun x => x.1.isSome)
      && decide ([e].length + ([] : List Keyword).length + (if ([] : List Keyword).isEmpty then 0 else 1) < 30)) = true := by rfl)
    (hline : (apos.endLine == cpos.line) = true := by rfl) (hs : starEach [e] C.X.env = (false, eval e C.X.env) :: starEach [] C.X.env := by rfl) (hplain : (backTo cpos (starEach [] C.X.env)).any (·.1) = false := by rfl)
    (hsw : swapsWith (.Call (.Attribute (.Name x px) "append" apos) [e] [] cpos) none pos.line C.X.env = pure false := by rfl) :
    SS C κ (.Expr (.Call (.Attribute (.Name x px) "append" apos) [e] [] cpos) pos) (sApp i me) :=
  PS.imp (ps_expr (pe_bm (r := rAppend) F.plainAttrs_list F.slot_list_append F.type_list_append mt_append (pe_var n.at_ hv hd hcd) (pa_cons he pa_nil hs) hbase hfew hline hs hplain) hsw) fun De σ H ⟨env, W, st, e, R, o⟩ => by
    subst e
    obtain ⟨xs, hei, o⟩ := own_case o
    · obtain ⟨a, vs, ha, hH, l⟩ := own_at (st1 := st) (W1 := W) R hei
      refine ⟨.ref a, ha, .inl ⟨rfl, vs, .inl (.inl hH)⟩, ?_⟩
      refine te_of (κe := .froz) R o fun d st1 v W1 e1 k1 r1 o1 => ?_
      have R1 := R.up e1 k1
      obtain ⟨a', vs', ha', hH', l'⟩ := own_at (st1 := st) (W1 := W) R1 hei
      rw [ha] at ha'
      cases ha'
      have o1 : OutS C ((if xs.length < line then ret (Fl.nx (env.put i true (.lst (xs ++ [d])))) else halt) st1) (kFl C κ De W) := o1
      by_cases hz : xs.length < line
      · rw [if_pos hz] at o1
        refine ⟨a, vs', v, rfl, rfl, hH', by rw [← l'.len, ← line_eq]; exact hz, ?_⟩
        exact (show kFl C κ De W (.nx (env.put i true (.lst (xs ++ [d])))) st1 from o1) σ (W1.new a (.lst (vs' ++ [v]))) (R1.updOwn hei ha (l'.app (.one r1))) (e1.lat.trans set_lat)
      · rw [if_neg hz] at o1; exact False.elim o1
theorem ss_ext (n : Nm C i x) (hv : Vis C.X.env.scope x) (he : SE C κe e me) (hd : (x == ("__debug__" : Str)) = false := by decide) (hcd : (x == ("__classdict__" : Str)) = false := by decide)
    (hbase : attributeBase (.Name x px) "extend" C.X.env (eval (.Name x px) C.X.env) = eval (.Name x px) C.X.env := by rfl)
    (hfew : ((backTo cpos (starEach [e] C.X.env)).all (fun x => !x.1) && (backToKw cpos (keywordEach [] C.X.env)).all (fun x => x.1.isSome)
      && decide ([e].length + ([] : List Keyword).length + (if ([] : List Keyword).isEmpty then 0 else 1) < 30)) = true := by rfl)
    (hline : (apos.endLine == cpos.line) = true := by rfl) (hs : starEach [e] C.X.env = (false, eval e C.X.env) :: starEach [] C.X.env := by rfl) (hplain : (backTo cpos (starEach [] C.X.env)).any (·.1) = false := by rfl)
    (hsw : swapsWith (.Call (.Attribute (.Name x px) "extend" apos) [e] [] cpos) none pos.line C.X.env = pure false := by rfl) :
    SS C κ (.Expr (.Call (.Attribute (.Name x px) "extend" apos) [e] [] cpos) pos) (sExt i me) :=
  PS.imp (ps_expr (pe_bm (r := rExtend) F.plainAttrs_list F.slot_list_extend F.type_list_extend mt_extend (pe_var n.at_ hv hd hcd) (pa_cons he pa_nil hs) hbase hfew hline hs hplain) hsw) fun De σ H ⟨env, W, st, e, R, o⟩ => by
    subst e
    obtain ⟨xs, hei, o⟩ := own_case o
    · obtain ⟨a, vs, ha, hH, l⟩ := own_at (st1 := st) (W1 := W) R hei
      refine ⟨.ref a, ha, .inl ⟨rfl, vs, .inl (.inl hH)⟩, ?_⟩
      refine te_of (κe := κe) R o fun d st1 v W1 e1 k1 r1 o1 => ?_
      have R1 := R.up e1 k1
      obtain ⟨a', vs', ha', hH', l'⟩ := own_at (st1 := st) (W1 := W) R1 hei
      rw [ha] at ha'
      cases ha'
      cases d with
      | lst ys =>
        have o1 : OutS C ((if xs.length + ys.length ≤ line then ret (Fl.nx (env.put i true (.lst (xs ++ ys)))) else halt) st1) (kFl C κ De W) := o1
        obtain ⟨b, ws, ev, hb, lb⟩ := r1.bor.lst k1
        subst ev
        by_cases hz : xs.length + ys.length ≤ line
        · rw [if_pos hz] at o1
          refine ⟨a, b, vs', ws, rfl, rfl, hH', hb, by rw [← l'.len, ← lb.len, ← line_eq]; exact hz, ?_⟩
          exact (show kFl C κ De W (.nx (env.put i true (.lst (xs ++ ys)))) st1 from o1) σ (W1.new a (.lst (vs' ++ ws))) (R1.updOwn hei ha (l'.app lb)) (e1.lat.trans set_lat)
        · rw [if_neg hz] at o1; exact False.elim o1
      | _ => exact False.elim (show False from o1)
theorem ss_setAt {κi : Kd} {ix : Expr} {mi : Ex} {spos : Pos} (n : Nm C i x) (hv : Vis C.X.env.scope x) (he : SE C .froz e me) (hi : SE C κi ix mi) (hd : (x == ("__debug__" : Str)) = false := by decide) (hcd : (x == ("__classdict__" : Str)) = false := by decide)
    (ha : ∀ v, assign (.Subscript (.Name x px) ix spos) C.X.env v = (do
      let ov ← holding [v] (eval (.Name x px) C.X.env)
      let iv ← holding [v, ov] (eval ix C.X.env)
      standAt spos
      holding [v, ov, iv] (setItem ov iv v)
      release [v, ov, iv] []) := by intro _; rfl)
    (hs : swapsWithSole [.Subscript (.Name x px) ix spos] e pos.line C.X.env = pure false := by rfl) (hw : swappedStores [.Subscript (.Name x px) ix spos] e C.X.env = pure none := by rfl)
    (h1 : (assignEach [.Subscript (.Name x px) ix spos] C.X.env).map (·.2) = [assign (.Subscript (.Name x px) ix spos) C.X.env] := by rfl) :
    SS C κ (.Assign [.Subscript (.Name x px) ix spos] e pos) (sSetAt i mi me) :=
  PS.imp (ps_asg he (pg_sub (pe_var n.at_ hv hd hcd) hi set_list ha) hs hw h1) fun De σ H ⟨env, W, st, e, R, o⟩ => by
    subst e
    unfold sSetAt at o
    cases hei : env i with
    | none => rw [hei] at o; exact False.elim o
    | some p =>
      obtain ⟨b, d0⟩ := p
      rw [hei] at o
      obtain ⟨v0, hs0, _⟩ := R.slot i b d0 hei
      refine te_of (κe := .froz) R o fun d st1 v W1 e1 k1 r1 o1 => ⟨v0, hs0, ?_⟩
      have R1 := R.up e1 k1
      refine ⟨env, W1, st1, rfl, R1, ((OutS.bnd o1).out R1.ext).imp fun kd st2 o2 kv W2 e2 k2 r2 => ?_⟩
      have R2 := R1.up e2 k2
      obtain ⟨v0', hs0', q0⟩ := R2.slot i b d0 hei
      rw [hs0] at hs0'
      cases hs0'
      unfold setAt at o2
      rw [hei] at o2
      cases kd with
      | int kk =>
        have ek := r2.bor.int
        subst ek
        cases b with
        | true =>
          cases d0 with
          | lst xs =>
            rw [if_pos rfl] at q0
            obtain ⟨a, ev, _, _, _, vs, hH, l⟩ := q0
            subst ev
            have o2 : OutS C ((match ixN xs.length kk with | some j => ret (Fl.nx (env.put i true (.lst (xs.set j d)))) | none => halt) st2) (kFl C κ De W) := o2
            cases hj : ixN xs.length kk with
            | none => rw [hj] at o2; exact False.elim o2
            | some j =>
              rw [hj] at o2
              refine ⟨a, vs, kk, j, rfl, rfl, hH, by rw [← l.len]; exact hj, ?_⟩
              exact (show kFl C κ De W (.nx (env.put i true (.lst (xs.set j d)))) st2 from o2) σ (W2.new a (.lst (vs.set j v))) (R2.updOwn hei hs0 (RpL.set (Rp.ext e2 r1) j l)) ((e1.trans e2).lat.trans set_lat)
          | _ => exact False.elim (show False from o2)
        | false =>
          cases d0 with
          | obj m =>
            rw [if_neg Bool.false_ne_true] at q0
            have q0' : Rp _ _ _ _ (.obj m) v0 := q0
            simp only [Rp] at q0'
            obtain ⟨a, ev, hm⟩ := q0'
            subst ev
            have o2 : OutS C (match st2[m]? with | some xs => (match ixN xs.length kk with | some j => Res.ok (Fl.nx env) (st2.set m (xs.set j d)) | none => .stuck) | none => .stuck) (kFl C κ De W) := o2
            cases hx : st2[m]? with
            | none => rw [hx] at o2; exact False.elim o2
            | some xs =>
              rw [hx] at o2
              obtain ⟨a', vs, g1, g2, g3⟩ := k2.cel m xs hx
              rw [hm] at g1
              cases g1
              have o2 : OutS C (match ixN xs.length kk with | some j => Res.ok (Fl.nx env) (st2.set m (xs.set j d)) | none => .stuck) (kFl C κ De W) := o2
              cases hj : ixN xs.length kk with
              | none => rw [hj] at o2; exact False.elim o2
              | some j =>
                rw [hj] at o2
                refine ⟨a, vs, kk, j, rfl, rfl, g2, by rw [← g3.len]; exact hj, ?_⟩
                have ext := cell_ext (o := .lst (vs.set j v)) hm (by rw [g2]; intro z; cases z)
                exact (show kFl C κ De W (.nx env) (st2.set m (xs.set j d)) from o2) σ (W2.new a (.lst (vs.set j v))) (R2.up ext (cell_ok k2 hm (RpL.set (Rp.ext e2 r1) j g3))) ((e1.trans e2).trans ext).lat
          | _ => exact False.elim (show False from o2)
      | _ => cases b <;> cases d0 <;> exact False.elim (show False from o2)
end
end Sm


set_option Elab.async false
set_option linter.all false
set_option maxRecDepth 100000
set_option maxHeartbeats 1000000
/-! Sm13: chains; the call of a def; the law's end. -/
namespace Sm
open PySem PySem.Spec L2

/-! ### a op b op' c -/
@[simp] def eChain (g g' : D → D → M D) (a b c : Ex) : Ex := fun env => bnd (a env) fun x => bnd (b env) fun y => bnd (g x y) fun t => match t with
  | .bl true => bnd (c env) fun z => g' y z
  | .bl false => ret (.bl false)
  | _ => halt
section
variable {C : Cn} {κa κb κc : Kd} {a b c : Expr} {ma mb mc : Ex} {g g' : D → D → M D} {op op' : CmpOp} {pos : Pos}
theorem se_chain (ho : SOp C .froz (compareOp op) g) (ho' : SOp C .froz (compareOp op') g') (ha : SE C κa a ma) (hb : SE C κb b mb) (hc : SE C κc c mc)
    (hm : lastMarks [op, op'] [b, c] = false := by with_unfolding_all rfl) : SE C .froz (.Compare a [op, op'] [b, c] pos) (eChain g g' ma mb mc) :=
  SE.mk fun pins s σ env W st Q I R o => by
    refine PyProof.Rows.Compare_chain (ha.go I R ((Out.bnd o).imp fun d1 st1 o1 x u s1 W1 e1 k1 r1 I1 ru => PyProof.Rows.chain_link (hb.go I1 (R.up e1 k1) (((Out.bnd o1).up e1).imp fun d2 st2 o2 y v s2 W2 e2 k2 r2 I2 rv => ?_)))) hm
    refine thn (ho pins s2 σ W2 st2 d1 d2 x y u v (fun z H => ∃ d st' W', W'.H = H ∧ Ext W2 W' ∧ C.ok W' st' ∧ C.rp W' d z ∧ Out C σ W ((match d with | .bl true => bnd (mc env) fun z => g' d2 z | .bl false => ret (.bl false) | _ => halt) st') (fun d st' => ∀ z W', Ext W W' → C.ok W' st' → C.rk .froz W W' d z → Q z W'.H)) I2 k2 (r1.bor.ext e2) r2.bor ru rv
      (((Out.bnd o2).up (e1.trans e2)).imp fun d st' q z W' e k r => ⟨d, st', W', rfl, e, k, r, q⟩)) fun t s3 ⟨z, H3, I3, rt, d, st3, W3, eH, e3, k3, r3, o3⟩ => ?_
    subst eH
    have e03 := (e1.trans e2).trans e3
    cases d with
    | bl i =>
      have ev := Bor.bl (.inl r3)
      subst ev
      cases rt
      refine wpAny_truthy_bool ?_
      cases i with
      | false =>
        exact PyProof.Rows.ite_ff ⟨.bl false, W3.H, I3, rfl, (show (∀ z W', Ext W W' → C.ok W' st3 → C.rk .froz W W' (.bl false) z → Q z W'.H) from o3) _ W3 e03 k3 (by simp [Cn.rk, RK, Rp])⟩
      | true =>
        refine PyProof.Rows.ite_tt (PyProof.Rows.chain_last (hc.go I3 (R.up e03 k3) (((Out.bnd o3).up e03).imp fun d3 st4 o4 w u4 s4 W4 e4 k4 r4 I4 rw4 => ?_)))
        exact ho' pins s4 σ W4 st4 d2 d3 y w v u4 Q I4 k4 (r2.bor.ext (e3.trans e4)) r4.bor rv rw4 ((o4.up (e03.trans e4)).imp fun d st' q z W' e k r => q z W' ((e03.trans e4).trans e) k r)
    | _ => exact (show False from o3).elim
theorem st_chain (ho : SOp C .froz (compareOp op) g) (ho' : SOp C .froz (compareOp op') g') (ha : SE C κa a ma) (hb : SE C κb b mb) (hc : SE C κc c mc)
    (hm : lastMarks [op, op'] [b, c] = false := by with_unfolding_all rfl) : ST C (.Compare a [op, op'] [b, c] pos) (tV (eChain g g' ma mb mc)) :=
  ST.mk fun pins s σ env W st Q I R o => by
    have o : Out C σ W (bnd (bnd (ma env) fun x => bnd (mb env) fun y => bnd (g x y) fun t => match t with | .bl true => bnd (mc env) fun z => g' y z | .bl false => ret (.bl false) | _ => halt) tru st) (fun b st' => ∀ W', Ext W W' → C.ok W' st' → Q b W'.H) := o
    have assoc : ∀ {α β γ : Type} (m : M α) (f : α → M β) (k : β → M γ), bnd (bnd m f) k = bnd m fun x => bnd (f x) k := fun m f k => by
      funext s
      unfold bnd
      cases m s <;> rfl
    rw [assoc] at o
    refine PyProof.Rows.isTrue_chain (ha.go I R ((Out.bnd o).imp fun d1 st1 o1 x u s1 W1 e1 k1 r1 I1 ru => ?_)) hm
    rw [assoc] at o1
    refine PyProof.Rows.test_link (hb.go I1 (R.up e1 k1) (((Out.bnd o1).up e1).imp fun d2 st2 o2 y v s2 W2 e2 k2 r2 I2 rv => ?_))
    rw [assoc] at o2
    refine thn (ho pins s2 σ W2 st2 d1 d2 x y u v (fun z H => ∃ d st' W', W'.H = H ∧ Ext W2 W' ∧ C.ok W' st' ∧ C.rp W' d z ∧ Out C σ W (bnd (match d with | .bl true => bnd (mc env) fun z => g' d2 z | .bl false => ret (.bl false) | _ => halt) tru st') (fun b st' => ∀ W', Ext W W' → C.ok W' st' → Q b W'.H)) I2 k2 (r1.bor.ext e2) r2.bor ru rv
      (((Out.bnd o2).up (e1.trans e2)).imp fun d st' q z W' e k r => ⟨d, st', W', rfl, e, k, r, q⟩)) fun t s3 ⟨z, H3, I3, rt, d, st3, W3, eH, e3, k3, r3, o3⟩ => ?_
    subst eH
    have e03 := (e1.trans e2).trans e3
    cases d with
    | bl i =>
      have ev := Bor.bl (.inl r3)
      subst ev
      cases rt
      refine wpAny_truthy_bool ?_
      cases i with
      | false =>
        exact PyProof.Rows.ite_ff ⟨W3.H, I3, (show (∀ W', Ext W W' → C.ok W' st3 → Q false W'.H) from o3) W3 e03 k3⟩
      | true =>
        have o3 : Out C σ W (bnd (bnd (mc env) fun z => g' d2 z) tru st3) (fun b st' => ∀ W', Ext W W' → C.ok W' st' → Q b W'.H) := o3
        rw [assoc] at o3
        refine PyProof.Rows.ite_tt (PyProof.Rows.test_last (hc.go I3 (R.up e03 k3) (((Out.bnd o3).up e03).imp fun d3 st4 o4 w u4 s4 W4 e4 k4 r4 I4 rw4 => ?_)))
        refine thn (ho' pins s4 σ W4 st4 d2 d3 y w v u4 (fun z H => ∃ q, TruV C.X.K z H q ∧ Q q H) I4 k4 (r2.bor.ext (e3.trans e4)) r4.bor rv rw4 (((Out.bnd o4).up (e03.trans e4)).imp fun d st' q z W' e k r => ?_)) fun t s5 ⟨z, H5, I5, rt, q⟩ => ?_
        · exact tru_ok k (.inl r) ((q.up ((e03.trans e4).trans e)).imp fun b st2 hq W2 e2 k2 => hq W2 (((e03.trans e4).trans e).trans e2) k2)
        · exact st_cmp.tru_ok_run I5 rt q
    | _ => exact (show False from o3).elim
end
end Sm


set_option Elab.async false
set_option linter.all false
set_option maxRecDepth 100000
set_option maxHeartbeats 1000000
/-! Sm14: the call of a def; the law's end. -/
namespace Sm
open PySem PySem.Spec L2
/-- a good context: k, the room for calls -/
structure Gd (C : Cn) (k : Nat) : Prop where
  calm : C.X.calm = true
  sys : Sysm C.X.K
  room : Room k C.X.A
  gu : C.X.A.guards = some []
  tk : Takes C.X C.Wx
  nd : C.X.N.Nodup
theorem Gd.un {C : Cn} {k : Nat} (G : Gd C k) : C.X.A.units + 64 < cLine := G.room.units
theorem Gd.blk {C : Cn} {k : Nat} (G : Gd C k) (s : Shared) (H : Hp) (scope : Scope) (Cl : Addr) (cl : List (Str × Addr)) (fp : List Addr) : Gd (C.blk s H scope Cl cl fp) k :=
  ⟨G.calm, G.sys, G.room, G.gu, fun u s' ⟨a, B, sI, pins, σ, H, cls, d, _, _, _, _, _, _, _, _, w⟩ => w.elim, G.nd⟩
def BearsF (K : PySem.W.Frag) (mg : Str → Option Value) (W : Wd) (c : Str) (fs : List (Str × D)) (cl : Addr) (d : Option Addr) : Prop :=
  mg c = some (.ref cl) ∧ match fs with
    | [] => d = none
    | [(f, x)] => ∃ dd v, d = some dd ∧ W.H dd = some (.xd [(f, v)]) ∧ Rp K mg W.as W.G x v
    | _ => False
/-- what a call of a def is to give -/
def OutF (K : PySem.W.Frag) (mg : Str → Option Value) (W : Wd) (E : XK) (r : Res D) (k : D → Store → Prop) : Prop := match r with
  | .ok a st => k a st
  | .exc c fs st => ∀ cl d W', Ext W W' → W'.Ok K mg st → BearsF K mg W' c fs cl d → E (.ref cl) d W'.H
  | .stuck => False
/-- a def does what F does -/
structure FnG (P : Program) (w : World) (K : PySem.W.Frag) (mg : Str → Option Value) (base : Heap) (T : List (Addr × Str)) (k : Nat) (f : Addr) (fd : FuncData) (ps : List Str) (κ : Kd) (F : Fx) : Prop where
  run : ∀ (A : Around) (outer : List Env) (s : Shared) (args : Args) (us : List Value) (vs : List V) (W : Wd) (st : Store) (ds : List D) (Q : VK) (E : XK), Room k A → A.guards = some [] → Env0 P w K mg base A outer s W.H → BindsTo s fd args (ps.zip us) → Vals vs us →
    W.Ok K mg st → W.T = T → RpL K mg W.as W.G ds vs → ds.length = ps.length → (OutF K mg W E (F ds st) fun d st' => ∀ z W', Ext W W' → W'.Ok K mg st' → RK K mg κ W W' d z → Q z W'.H) →
    codeAny (model P w) A (.call (.ref f) args) (CR (L2.CX P w) outer P w W.H s Q E) s
theorem FnG.mono {P : Program} {w : World} {K : PySem.W.Frag} {mg : Str → Option Value} {base : Heap} {T : List (Addr × Str)} {j k : Nat} {f : Addr} {fd : FuncData} {ps : List Str} {κ : Kd} {F : Fx} (h : FnG P w K mg base T j f fd ps κ F) (hk : j ≤ k) : FnG P w K mg base T k f fd ps κ F :=
  ⟨fun A outer s args us vs W st ds Q E hr => h.run A outer s args us vs W st ds Q E (hr.mono hk)⟩
/-- the context of a def's body -/
def bodyC (P : Program) (w : World) (K : PySem.W.Frag) (mg : Str → Option Value) (base : Heap) (N : List Str) (qual : Str) (scope : Scope) (f : Addr) (cd : Value) (A : Around) (outer : List Env) (s : Shared) (W : Wd) (E : XK) : Cn :=
  { X := cxOf (L2.CX P w) P w K mg base N qual scope f cd A outer s W.H E, W0 := W, Wx := fun cls d _ H => E cls d H }
@[simp] def env0 (ds : List D) : En := fun i => (ds[i]?).map fun d => (false, d)
/-- the body, called -/
@[simp] def endK : Kd → M D
  | .froz => ret .non
  | _ => halt
@[simp] def callS (κ : Kd) (m : Sx) (ds : List D) : M D := bnd (m (env0 ds)) fun f => match f with
  | .rt d => ret d
  | .nx _ => endK κ
section
variable {P : Program} {w : World} {K : PySem.W.Frag} {mg : Str → Option Value} {base : Heap} {T : List (Addr × Str)} {k : Nat} {f : Addr} {fd : FuncData} {ps N : List Str} {κ : Kd} {F : Fx} {m : Sx} {x qual : Str} {params : Arguments} {body : List Stmt} {scope : Scope} {dvs : List V} {kws : List (Str × V)}
theorem SR.start {C : Cn} {W : Wd} {st : Store} {ds : List D} {vs : List V} (h0 : C.W0 = W) (k : C.ok W st) (r : RpL C.X.K C.X.mg W.as W.G ds vs) (hl : ds.length ≤ C.X.N.length) : SR C (env0 ds) W st (L2.start C.X.N vs) := by
  have e : ∀ {i b d}, env0 ds i = some (b, d) → b = false ∧ ds[i]? = some d := fun {i b d} h => by
    unfold env0 at h
    cases q : ds[i]? with
    | none => rw [q] at h; cases h
    | some d' => rw [q] at h; cases h; exact ⟨rfl, rfl⟩
  refine ⟨h0 ▸ .refl W, ?_, k, fun i b d h => ?_, fun i j d e' a _ h1 => ?_⟩
  · unfold L2.start
    rw [List.length_append, List.length_map, List.length_replicate, ← r.len]
    omega
  · obtain ⟨rfl, hd⟩ := e h
    obtain ⟨v, h1, h2⟩ := r.get' hd
    refine ⟨v, ?_, by rw [if_neg Bool.false_ne_true]; exact h2⟩
    unfold L2.start
    have hi : i < vs.length := by
      by_cases q : i < vs.length
      · exact q
      · rw [List.getElem?_eq_none (by omega)] at h1; cases h1
    rw [List.getElem?_append_left (by simpa using hi), List.getElem?_map, h1]
    rfl
  · exact absurd (e h1).1 (by decide)
/-- THE RULE: a def does what its body does -/
theorem fnG_of (FD : FunD K x qual params body scope dvs kws f fd) (S : FnScope N ps scope) (hs : Sysm K) (hF : F = callS κ m)
    (hbody : ∀ (cd : Value) (A : Around) (outer : List Env) (s : Shared) (W : Wd) (E : XK), W.T = T → Gd (bodyC P w K mg base N qual scope f cd A outer s W E) k → PassesOwn (model P w) (A.deeper (PyProof.Rows.envOfC qual scope s.heap.objs.size f cd)) (PyProof.Rows.envOfC qual scope s.heap.objs.size f cd) (bodyC P w K mg base N qual scope f cd A outer s W E).X.xe →
      SSs (bodyC P w K mg base N qual scope f cd A outer s W E) κ body m) : FnG P w K mg base T (k + 1) f fd ps κ F := by
  obtain ⟨oc, od, dV, kV, doc, pm, an, cdv, ct, osl, rfl, lk, hcd, _, _⟩ := FD.ex
  refine ⟨fun A outer s args us vs W st ds Q E hr hg e0 hb r kW hT rp hlen ho => ?_⟩
  have hl : vs.length = ps.length := by rw [← rp.len]; exact hlen
  have KX : K.In s.heap := e0.mod.kin.keeps fun b o e => (e0.bs b o e).1
  have lim : s.heap.NoLimit := e0.mod.nolimit.keeps fun b o e => (e0.bs b o e).1
  have hkind : ∀ y ∈ ps.zip us, scope.names.lookup y.1 = some .local ∨ (scope.names.lookup y.1 = some .cell ∧ ((cellsFrom (s.heap.objs.size + 1) scope.names []).lookup y.1).isSome = true) := fun ⟨n, v⟩ hy => by
    rcases S.par n (List.of_mem_zip hy).1 with q | q
    · exact .inl q
    · exact .inr ⟨q, PySem.W.cellsFrom_some _ _ _ (.inl q)⟩
  refine codeAny_call_function hr.depth (KX _ _ lk) rfl S.co S.gen rfl (PySem.W.codeRec_of KX hcd) (hb _ _ _ _ ?_)
  refine wpAny_newFunctionEnv_cells S.kind hkind fun env he s1 y => ?_
  subst he
  refine ⟨lim.keeps y.toInCall.keep, codeAny_func ?_⟩
  have I : Inv (bodyC P w K mg base N qual scope f cdv A outer s W E).X [] (L2.start N vs) W.H s1 := inv_start S hr.hd e0 hl r y
  have G : Gd (bodyC P w K mg base N qual scope f cdv A outer s W E) k := ⟨rfl, hs, hr.deeper _, hg, takes_of rfl rfl rfl rfl, S.nd⟩
  have hN : ds.length ≤ N.length := by
    have := congrArg List.length S.pre
    rw [List.length_take] at this
    omega
  have hsr : SR (bodyC P w K mg base N qual scope f cdv A outer s W E) (env0 ds) W st (L2.start N vs) := SR.start (C := bodyC P w K mg base N qual scope f cdv A outer s W E) rfl kW rp hN
  refine wpAny_mono ((hbody cdv A outer s W E hT G (passes_of rfl)).run [] s1 (L2.start N vs) W.H { nx := fun _ H' => Q .non H', rt := Q } I ⟨env0 ds, W, st, rfl, hsr, ?_⟩) (fun fl s' hs => ?_) fun e s' hs => hs
  · rw [hF] at ho
    have ho : OutF K mg W E (callS κ m ds st) _ := ho
    unfold callS bnd at ho
    cases q : m (env0 ds) st with
    | ok fl st' =>
      rw [q] at ho
      cases fl with
      | nx env' =>
        cases κ with
        | froz => exact fun σ' W' R' l => (show (∀ z W', Ext W W' → W'.Ok K mg st' → RK K mg .froz W W' .non z → Q z W'.H) from ho) .non W' R'.ext R'.ok (by simp [RK, Rp])
        | bor => exact False.elim (show False from ho)
        | fresh => exact False.elim (show False from ho)
      | rt d => exact fun v W' e' k' r' => (show (∀ z W', Ext W W' → W'.Ok K mg st' → RK K mg κ W W' d z → Q z W'.H) from ho) v W' e' k' r'
    | exc c fs st' => rw [q] at ho; exact fun cl d W' σ' e' k' b => ho cl d W' e' k' b
    | stuck => rw [q] at ho; exact False.elim ho
  · have fin : ∀ {σ' : L2.St} {H' : Hp} {v : V} {u : Value}, Inv (bodyC P w K mg base N qual scope f cdv A outer s W E).X [] σ' H' s' → RelV v u → Q v H' → CE outer P w W.H s Q u s' :=
      fun {σ' H' v u} J rv q => ⟨v, H', J.os, J.bare, J.base, J.hok, rv, q⟩
    cases fl with
    | ret u =>
      obtain ⟨v, σ', H', J, rv, q⟩ := hs
      exact fin J rv q
    | next =>
      obtain ⟨σ', H', J, q⟩ := hs
      exact fin (v := V.non) (u := Value.none) J rfl q
    | brk =>
      obtain ⟨_, _, _, q⟩ := hs
      exact False.elim q
    | cont =>
      obtain ⟨_, _, _, q⟩ := hs
      exact False.elim q
end

/-! ### calls -/
section
variable {C : Cn} {k j : Nat} {f : Addr} {fd : FuncData} {ps : List Str} {κ : Kd} {F : Fx} {e : Expr} {es : List Expr} {ml : Lx} {x : Str} {p pos : Pos}
theorem outF_of {W : Wd} {r : Res D} {q : D → Store → Prop} {σ : L2.St} (o : Out C σ W r q) : OutF C.X.K C.X.mg W (fun c d H => C.Wx c d σ H) r q := by
  cases r with
  | ok a st => exact o
  | exc c fs st => exact o
  | stuck => exact o
theorem run_call {pins : List (Addr × Obj)} {s : Shared} {σ : L2.St} {W : Wd} {st : Store} {ds : List D} {vs : List V} {us : List Value} {Q : VK} (G : Gd C k) (FG : FnG C.X.prog C.X.w C.X.K C.X.mg C.X.base C.W0.T j f fd ps κ F) (hj : j ≤ k) (hb : Binds C.X.K fd ps []) (hl : ds.length = ps.length)
    (I : Inv C.X pins σ W.H s) (kW : C.ok W st) (hT : W.T = C.W0.T) (r : RpL C.X.K C.X.mg W.as W.G ds vs) (rv : Vals vs us) (o : Out C σ W (F ds st) (KEnd C κ W Q)) : wpAny (model C.X.prog C.X.w) C.X.A (call (.ref f) us) (EP C.X pins σ Q) C.X.xe s := by
  have hlu : us.length = ps.length := by rw [← rv.length, ← r.len]; exact hl
  have b := hb s us I.kIn (by rw [List.append_nil]; exact hlu)
  rw [List.append_nil] at b
  refine wpAny_call (codeAny_mono ((FG.mono hj).run C.X.A C.X.stack s ⟨us, []⟩ us vs W st ds Q (fun c d H => C.Wx c d σ H) G.room G.gu I.env0 b rv kW hT r hl (outF_of o)) fun r s' hq => ?_)
  cases r with
  | error e => exact passAt G.tk σ pins W.H s e s' I hq
  | ok fl =>
    cases fl with
    | ret u => exact I.after hq
    | next => exact False.elim hq
    | brk => exact False.elim hq
    | cont => exact False.elim hq
/-- f(e, ..), f a def of the module -/
theorem se_call {n : Nat} (G : Gd C k) (FG : FnG C.X.prog C.X.w C.X.K C.X.mg C.X.base C.W0.T j f fd ps κ F) (hj : j ≤ k) (hb : Binds C.X.K fd ps []) (hg : Gl C.X x) (hm : C.X.mg x = some (.ref f)) (hk : PySem.W.keepIn C.X.K (.ref f) = true) (ha : SA C (e :: es) ml) (hln : Ln ml n) (hn : n = ps.length := by rfl)
    (hdb : (x == ("__debug__" : Str)) = false := by decide) (he : starEach (e :: es) C.X.env = (false, eval e C.X.env) :: starEach es C.X.env := by rfl) (hpl : (backTo pos (starEach es C.X.env)).any (·.1) = false := by rfl) :
    SE C κ (.Call (.Name x p) (e :: es) [] pos) (eFn F ml) :=
  SE.mk fun pins s σ env W st Q I R o => by
    refine wpAny_Call_Name_kw (ld_glob I hg hm ?_ hdb)
    refine PySem.W.callWith_K (h₀ := C.X.base) I.ok.mod.kin hk (ha.go I R ((out_ln hln o).imp fun ds st1 ⟨hz, o1⟩ vs us s1 W1 e1 k1 r1 I1 rv => ⟨I1.kIn, ?_⟩)) he hpl
    exact run_call G FG hj hb (hz.trans hn) I1 k1 (e1.t.trans R.ext.t) r1 rv ((o1.up e1).imp fun d st2 q z W2 e2 k2 r2 => q z W2 (e1.trans e2) k2 (r2.down e1))
/-- f() -/
theorem se_call0 (G : Gd C k) (FG : FnG C.X.prog C.X.w C.X.K C.X.mg C.X.base C.W0.T j f fd [] κ F) (hj : j ≤ k) (hb : Binds C.X.K fd [] []) (hg : Gl C.X x) (hm : C.X.mg x = some (.ref f)) (hk : PySem.W.keepIn C.X.K (.ref f) = true) (hdb : (x == ("__debug__" : Str)) = false := by decide) :
    SE C κ (.Call (.Name x p) [] [] pos) (fun _ => F []) :=
  SE.mk fun pins s σ env W st Q I R o => by
    refine wpAny_Call_Name_kw (ld_glob I hg hm ?_ hdb)
    exact PySem.W.callWith_K0 I.kIn hk (run_call (us := []) G FG hj hb rfl I R.ok R.ext.t (by simp [RpL]) .nil o)
end

/-! ### the law's end -/
/-- an int, as the script holds it -/
def scrD (ns : List Int) : D := .scr (ns.map D.int)
theorem rpl_ints {K : PySem.W.Frag} {mg : Str → Option Value} {as : List Addr} {G : Hp} : ∀ ns : List Int, RpL K mg as G (ns.map D.int) (ns.map V.int)
  | [] => by simp [RpL]
  | n :: ns => by
    simp only [List.map_cons, RpL, Rp]
    exact ⟨_, _, rfl, rfl, rpl_ints ns⟩
/-- the def's promise, for the kit's end: at the caller's place alone -/
theorem law_run {P : Program} {w : World} {K : PySem.W.Frag} {mg : Str → Option Value} {base : Heap} {k : Nat} {f a : Addr} {fd : FuncData} {x : Str} {F : Fx} {s : Shared} {H : Hp} {ns : List Int} (FG : FnG P w K mg base [] k f fd [x] .froz F) (hr : Room k callerA) (e0 : Env0 P w K mg base callerA [] s H)
    (hb : BindsTo s fd ⟨[.ref a], []⟩ [(x, .ref a)]) (hS : SqL K H a (ns.map V.int)) (hnT : ∀ a o, H a = some o → nT o = true) (hF : ∃ st', F [scrD ns] [] = .ok (.bl true) st') :
    codeAny (model P w) callerA (.call (.ref f) ⟨[.ref a], []⟩) (CR (L2.CX P w) [] P w H s (fun v _ => v = .bl true) fun _ _ _ => False) s := by
  obtain ⟨st', hF⟩ := hF
  refine FG.run callerA [] s ⟨[.ref a], []⟩ [.ref a] [.ref a] { H := H, G := H, as := [] } [] [scrD ns] _ _ hr rfl e0 hb (.cons rfl .nil) (show Wd.Ok K mg { H := H, G := H, as := [] } [] from ⟨fun _ _ h => h, List.nodup_nil, fun _ h => (List.not_mem_nil h).elim, rfl, fun i ds h => by simp at h, fun p hp => (List.not_mem_nil hp).elim, hnT⟩) rfl ?_ rfl ?_
  · simp only [RpL, scrD, Rp]
    exact ⟨.ref a, [], rfl, ⟨a, ns.map V.int, rfl, hS, rpl_ints ns⟩, rfl⟩
  · rw [hF]
    intro z W' e k r
    have r' : Rp K mg W'.as W'.G (.bl true) z := r
    simpa only [Rp] using r'
section
open PyProof.Rows
/-- the heap behind the top, the script told by itself -/
theorem law_end {P : Program} {w : World} {K : PySem.W.Frag} {mg mb : Str → Option Value} {fa a : Addr} {s₁ : Shared} {vs : List Value} {ns : List Int}
    (KX : K.In s₁.heap) (hns : s₁.heap.Ns mainGlobals mg) (hb : s₁.heap.Ns builtinsNs mb) (hbb : ∀ x : Str, x ≠ "__name__" → mb x = bootBuiltins x) (hlim : s₁.heap.NoLimit) (hg : s₁.gens = #[])
    (ha : s₁.heap.get? a = some { cls := .type "list", data := .seq vs.toArray }) (hi : IntsAre vs ns) (hl : ns.length ≤ sizeLine)
    (go : ∀ (base : Heap) (H : Hp), K.In base → base.Ns mainGlobals mg → SqL K H a (ns.map V.int) → (∀ a o, H a = some o → nT o = true) → Env0 P w K mg base callerA [] s₁ H →
      codeAny (model P w) callerA (.call (.ref fa) ⟨[.ref a], []⟩) (CR (L2.CX P w) [] P w H s₁ (fun v _ => v = .bl true) fun _ _ _ => False) s₁) :
    codeAny (model P w) callerA (.call (.ref fa) ⟨[.ref a], []⟩) (fun r s' => r = .ok (.ret (.bool true)) ∧ OldK s₁.heap s'.heap ∧ s'.os = s₁.os ∧ AllBare s'.gens) s₁ := by
  have rv := vals_ints hi
  have lenV := hi.length
  have main : ∀ H : Hp, (∀ b u, H b = some u → b = a ∧ K.lookup a = none ∧ ∃ o xs, u = .frz o (.lst xs)) → SqL K H a (ns.map V.int) → HOk P w H s₁.heap →
      codeAny (model P w) callerA (.call (.ref fa) ⟨[.ref a], []⟩) (fun r s' => r = .ok (.ret (.bool true)) ∧ OldK s₁.heap s'.heap ∧ s'.os = s₁.os ∧ AllBare s'.gens) s₁ := by
    intro H hH hS hok
    have free : ∀ {b : Addr}, b ≠ a → H b = none := fun {b} n => by
      cases q : H b with
      | none => rfl
      | some u => exact absurd (hH b u q).1 n
    have keep : ∀ {b : Addr} {o : Obj} {es : Array DictEntry} {ep : Nat}, s₁.heap.get? b = some o → o.data = .dict es ep → (hidT s₁.heap H).get? b = some o := fun {b o es ep} e d => by
      refine hidT_get e (free fun z => ?_)
      rw [z, ha] at e
      cases e
      have d' : Data.seq vs.toArray _ = Data.dict es ep := d
      cases d'
    have nsK : ∀ {b : Addr} {m : Str → Option Value}, s₁.heap.Ns b m → (hidT s₁.heap H).Ns b m := fun {b m} ⟨o, es, ep, e, d, r⟩ => ⟨o, es, ep, keep e d, d, r⟩
    have hKb : K.In (hidT s₁.heap H) := fun b o e => hidT_get (KX b o e) (by
      cases q : H b with
      | none => rfl
      | some u =>
        obtain ⟨z, n, _⟩ := hH b u q
        rw [z, n] at e; cases e)
    have hM : Mod K mg (hidT s₁.heap H) := ⟨hKb, nsK hns, ⟨mb, nsK hb, hbb⟩, let ⟨mc, h1, h2⟩ := hlim; ⟨mc, nsK h1, h2⟩⟩
    have e0 : Env0 P w K mg (hidT s₁.heap H) callerA [] s₁ H := ⟨rfl, hM, fun b o e => of_hidT e, Nat.le_of_eq (hidT_size _ _), trivial, fun b hb => absurd (show b ∈ ([] : List Addr) from hb) (by simp), hok, .of_eq hg⟩
    refine codeAny_mono (go (hidT s₁.heap H) H hKb (nsK hns) hS (fun b u e => by obtain ⟨_, _, o, xs, rfl⟩ := hH b u e; rfl) e0) fun r s' h => ?_
    cases r with
    | error e =>
      obtain ⟨_, _, _, _, _, _, _, _, _, _, _, _, w⟩ := h
      exact w.elim
    | ok fl =>
      cases fl with
      | ret u =>
        obtain ⟨v, H', os, bare, un, hok', r', q⟩ := h
        have q' : v = .bl true := q
        subst q'
        obtain rfl : u = Value.bool true := r'
        refine ⟨rfl, OldK.of_keep fun b o e => ?_, os, bare⟩
        cases q : H b with
        | none => exact un.keep b o e q (fun z => absurd (show b ∈ ([] : List Addr) from z) (by simp)) (by simp)
        | some u =>
          obtain ⟨_, _, ob, xs, rfl⟩ := hH b u q
          obtain ⟨e1, _⟩ := hok b _ q
          obtain ⟨e2, _⟩ := hok' b _ (un.frzs b ob _ q)
          rw [e] at e1; cases e1
          exact e2
      | next => exact False.elim h
      | brk => exact False.elim h
      | cont => exact False.elim h
  cases hk : K.lookup a with
  | some o =>
    have e := KX a o hk
    rw [ha] at e
    cases e
    refine main (fun _ => none) (fun b u z => ?_) (.inr ⟨_, vs.toArray, _, hk, rfl, rfl, rfl, by rw [List.size_toArray, lenV]; exact hl, by simpa using rv⟩) fun b u z => ?_
    · have z' : (none : Option HO) = some u := z
      cases z'
    · have z' : (none : Option HO) = some u := z
      cases z'
  | none =>
    refine main (fun b => if b = a then some (.frz { cls := .type "list", data := .seq vs.toArray } (.lst (ns.map V.int))) else none) (fun b u z => ?_) (.inl (.inr ⟨{ cls := .type "list", data := .seq vs.toArray }, if_pos rfl⟩)) fun b u z => ?_
    · by_cases q : b = a
      · have z' := (if_pos q).symm.trans z
        cases z'
        exact ⟨q, hk, _, _, rfl⟩
      · have z' := (if_neg q).symm.trans z
        cases z'
    · by_cases q : b = a
      · have z' := (if_pos q).symm.trans z
        cases z'
        subst q
        exact ⟨ha, by rw [List.length_map]; exact hl, vs, _, rv, ha⟩
      · have z' := (if_neg q).symm.trans z
        cases z'
/-- a law over a head by facts: F, what the law's def computes -/
theorem walk_ofG {l : PySem.W.OpenLaw} {n k : Nat} {q : Program} {loose : List Str} {XP : (Str → Option Value) → Heap → Prop} {YP : World → Heap → Prop} {d : DefRec} {x : Str} {Fl : Fx}
    (hn : l.most = some n) (hn2 : n ≤ sizeLine) (hdf : d.params.defaults = []) (hr : Room k callerA)
    (F : ∀ (w : World) (mg : Str → Option Value) (fa : Addr) (h : Heap), YP w h → h.Ns mainGlobals mg → mg d.name = some (.ref fa) →
      ∃ (K : PySem.W.Frag) (fd : FuncData), K.In h ∧ (∀ (s : Shared) (u : Value), BindsTo s fd ⟨[u], []⟩ [(x, u)]) ∧ ∀ base : Heap, K.In base → base.Ns mainGlobals mg → FnG l.prog w K mg base [] k fa fd [x] .froz Fl)
    (hF : ∀ ns : List Int, ns.length ≤ n → ∃ st', Fl [scrD ns] [] = .ok (.bl true) st') :
    PySem.W.WalkO q loose XP YP l.row.toRowW d [] (fun f vs => PySem.call f vs) := by
  refine Att.attach_call hn hdf fun w s₀ s₁ mg mb fa o pm cd doc a vs ns G Y ho hd hcd hmg hobj hints hlen hg => ?_
  obtain ⟨K, fd, KX, hb, hFn⟩ := F w mg fa _ Y G.T.g hmg
  exact law_end KX G.T.g G.T.b G.T.builtins G.T.nolimit hg hobj hints (Nat.le_trans hlen hn2) fun base H hK hN hS hnT e0 => law_run (hFn base hK hN) hr e0 (hb s₁ (.ref a)) hS hnT (hF ns hlen)
end
end Sm


set_option Elab.async false
set_option linter.all false
set_option maxRecDepth 100000
set_option maxHeartbeats 1000000
/-! Sm15: what the printed terms use. -/
namespace Sm
open PySem PySem.Spec L2
/-! ### operators of any kind -/
theorem SOp.frz {C : Cn} {f : Value → Value → Sem Value} {g : D → D → M D} (h : SOp C .fresh f g) : SOp C .froz f g := by
  intro pins s σ W st d1 d2 x y u v Q I k b1 b2 ru rv o
  refine h pins s σ W st d1 d2 x y u v Q I k b1 b2 ru rv (o.imp fun d st' hq z W' e k' r => ?_)
  obtain ⟨a, ev, n0, ng, na, t⟩ := r
  subst ev
  exact hq (.ref a) (W'.frz a) (frz_ext e n0 ng) (frz_ok k' ng na t.nt) (frz_rp ng t)
theorem SOp.or {C : Cn} {κ : Kd} {f : Value → Value → Sem Value} {g g' : D → D → Option D} (h : SOp C κ f (pur g)) (h' : SOp C κ f (pur g')) : SOp C κ f (pur fun a b => (g a b).or (g' a b)) := by
  intro pins s σ W st d1 d2 x y u v Q I k b1 b2 ru rv o
  cases q : g d1 d2 with
  | some d =>
    refine h pins s σ W st d1 d2 x y u v Q I k b1 b2 ru rv ?_
    have e : pur (fun a b => (g a b).or (g' a b)) d1 d2 = pur g d1 d2 := by show lift ((g d1 d2).or (g' d1 d2)) = lift (g d1 d2); rw [q]; rfl
    rw [← e]; exact o
  | none =>
    refine h' pins s σ W st d1 d2 x y u v Q I k b1 b2 ru rv ?_
    have e : pur (fun a b => (g a b).or (g' a b)) d1 d2 = pur g' d1 d2 := by show lift ((g d1 d2).or (g' d1 d2)) = lift (g' d1 d2); rw [q]; rfl
    rw [← e]; exact o
def addA (a b : D) : Option D := (addD a b).or (addL a b)
def mulA (a b : D) : Option D := (mulD a b).or (mulL a b)
theorem sop_addA {C : Cn} : SOp C .froz (binaryOp .Add) (pur addA) := SOp.or sop_add sop_addL.frz
theorem sop_mulA {C : Cn} : SOp C .froz (binaryOp .Mult) (pur mulA) := SOp.or sop_mul sop_mulL.frz
/-- a[lo:hi] of anything -/
def slA (d : D) (lo hi : Option Int) : Option D := match d with
  | .lst xs => some (.lst (cut xs lo hi))
  | .scr xs => some (.lst (cut xs lo hi))
  | .tup xs => some (.tup (cut xs lo hi))
  | .str z => if z.length ≤ line then some (.str (cutS z lo hi)) else none
  | _ => none
section
variable {C : Cn} {κ : Kd} {a : Expr} {ma : Ex} {lo hi : Option Expr} {ml mh : Px} {pos p2 : Pos}
theorem se_slA (ha : SE C κ a ma) (hl : SO C lo ml) (hh : SO C hi mh) : SE C .froz (.Subscript a (.Slice lo hi none p2) pos) (eSl slA ma ml mh) :=
  PE.imp (pe_slice ((sl_tupF.or sl_str).or sl_list) ha hl hh) fun σ H Q ⟨env, W, st, e, R, o⟩ => by
    subst e
    refine ⟨env, W, st, rfl, R, (Out.bnd o).imp fun d st1 o1 v W1 e1 k1 r1 => ⟨env, W1, st1, rfl, R.up e1 k1, ((Out.bnd o1).up e1).imp fun l st2 o2 W2 e2 k2 => ⟨env, W2, st2, rfl, R.up (e1.trans e2) k2, ((Out.bnd o2).up (e1.trans e2)).imp fun u st3 o3 W3 e3 k3 => ?_⟩⟩⟩
    have e03 := (e1.trans e2).trans e3
    have b3 := r1.bor.ext (e2.trans e3)
    have fin : ∀ {xs : List D} {vs : List V} {p : Addr}, v = .ref p → SqL C.X.K W3.H p vs → RpL C.X.K C.X.mg W3.as W3.G xs vs → (∀ z W', Ext W W' → C.ok W' st3 → C.rk .froz W W' (.lst (cut xs l u)) z → Q z W'.H) → rSlL C.X.K v l u W3.H Q :=
      fun {xs vs p} ev hp r q => ⟨_, _, ev, hp, fun p' np => by
        have ng := new_g (o := .lst (cutV vs l u)) k3 np
        have na := new_as (o := .lst (cutV vs l u)) k3 np
        exact q _ ((W3.new p' (.lst (cutV vs l u))).frz p') (e03.trans (frz_ext (new_ext np) (nn_of np) ng)) (frz_ok (new_ok k3 np) ng na (new_nt rfl)) (frz_rp ng ⟨_, upd_same, r.cut⟩)⟩
    cases d with
    | lst xs =>
      obtain ⟨p, vs, ev, hp, r⟩ := b3.lst k3
      exact .inr (fin ev (.inl (.inl hp)) r o3)
    | scr xs =>
      obtain ⟨p, vs, ev, hp, r⟩ := b3.scr k3
      exact .inr (fin ev hp r o3)
    | tup xs =>
      have q : ∀ z W', Ext W W' → C.ok W' st3 → C.rk .froz W W' (.tup (cut xs l u)) z → Q z W'.H := o3
      obtain ⟨p, vs, ev, hp, r⟩ := b3.tup k3
      refine .inl (.inl ⟨p, vs, ev, hp, fun h => ?_, fun p' ob np no => q _ (W3.newT p' ob (cutV vs l u)) (e03.trans (newT_ext k3 np)) (newT_ok k3 np) (newT_rp k3 np no r.cut)⟩)
      have := q v W3 e03 k3 (by rw [cut_all (by rw [r.len]; exact h)]; exact b3.froz_tup)
      rw [ev] at this
      exact this
    | str z =>
      have e1 := b3.str
      subst e1
      have o' : Out C σ W (lift (if z.length ≤ line then some (D.str (cutS z l u)) else none) st3) _ := o3
      by_cases hz : z.length ≤ line
      · rw [if_pos hz] at o'
        exact .inl (.inr ⟨z, rfl, by rw [← line_eq]; exact hz, o' _ W3 e03 k3 (by simp [Cn.rk, RK, Rp])⟩)
      · rw [if_neg hz] at o'; exact False.elim o'
    | _ => exact False.elim (show False from o3)
end
/-- return x, x one's own list -/
def sRetOwn (i : Nat) : Sx := fun env => match env i with
  | some (true, d) => ret (.rt d)
  | _ => halt
theorem ss_retOwn {C : Cn} {i : Nat} {x : Str} {px pos : Pos} (hN : C.X.N[i]? = some x) (hv : Vis C.X.env.scope x) (hd : (x == ("__debug__" : Str)) = false := by decide) (hcd : (x == ("__classdict__" : Str)) = false := by decide) : SS C .fresh (.Return (some (.Name x px)) pos) (sRetOwn i) :=
  PS.imp (ps_ret (pe_var (X := C.X) hN hv hd hcd)) fun De σ H ⟨env, W, st, e, R, o⟩ => by
    subst e
    unfold sRetOwn at o
    cases q : env i with
    | none => rw [q] at o; exact False.elim o
    | some p =>
      obtain ⟨b, d⟩ := p
      rw [q] at o
      cases b with
      | false => exact False.elim o
      | true =>
        obtain ⟨v, h1, h2⟩ := R.slot i true d q
        rw [if_pos rfl] at h2
        exact ⟨v, h1, (show kFl C .fresh De W (.rt d) st from o) v W R.ext R.ok h2⟩
/-! ### promises by names -/
/-- the module's def x does what F does -/
def Prm (P : Program) (w : World) (K : PySem.W.Frag) (mg : Str → Option Value) (base : Heap) (T : List (Addr × Str)) (k : Nat) (x : Str) (ps : List Str) (κ : Kd) (F : Fx) : Prop :=
  ∃ (f : Addr) (fd : FuncData), mg x = some (.ref f) ∧ Binds K fd ps [] ∧ PySem.W.keepIn K (.ref f) = true ∧ FnG P w K mg base T k f fd ps κ F
section
variable {C : Cn} {k j : Nat} {ps : List Str} {κ : Kd} {F : Fx} {e : Expr} {es : List Expr} {ml : Lx} {x : Str} {p pos : Pos}
theorem se_callP {n : Nat} (G : Gd C k) (q : Prm C.X.prog C.X.w C.X.K C.X.mg C.X.base C.W0.T j x ps κ F) (hj : j ≤ k) (hg : Gl C.X x) (ha : SA C (e :: es) ml) (hln : Ln ml n) (hn : n = ps.length := by rfl)
    (hdb : (x == ("__debug__" : Str)) = false := by decide) (he : starEach (e :: es) C.X.env = (false, eval e C.X.env) :: starEach es C.X.env := by rfl) (hpl : (backTo pos (starEach es C.X.env)).any (·.1) = false := by rfl) :
    SE C κ (.Call (.Name x p) (e :: es) [] pos) (eFn F ml) := by
  obtain ⟨f, fd, hm, hb, hk, FG⟩ := q
  exact se_call G FG hj hb hg hm hk ha hln hn hdb he hpl
theorem se_callP0 (G : Gd C k) (q : Prm C.X.prog C.X.w C.X.K C.X.mg C.X.base C.W0.T j x [] κ F) (hj : j ≤ k) (hg : Gl C.X x) (hdb : (x == ("__debug__" : Str)) = false := by decide) : SE C κ (.Call (.Name x p) [] [] pos) (fun _ => F []) := by
  obtain ⟨f, fd, hm, hb, hk, FG⟩ := q
  exact se_call0 G FG hj hb hg hm hk hdb
end
/-! ### the head's facts -/
/-- sys.modules stands in the part too -/
def obsS (fa : List He.Fa) (fn : List He.DefD) (K : PySem.W.Frag) : He.AlD := ((He.obsD fa fn K).1 && (K.lookup sysModules).isSome, (He.obsD fa fn K).2)
def obsSG (n : Nat) (fa : List He.Fa) (fn : List He.DefD) (g : Addr → Option Obj) : He.AlD := obsS fa fn (He.frG g (sysModules :: He.asD g n))
def hookS (n : Nat) (fa : List He.Fa) (fn : List He.DefD) : PySem.W.Hook where
  α := He.AlD
  obs := fun s => obsSG n fa fn s.heap.get?
  val := fun _ => He.valD fn
  says := fun _ h => ∃ K : PySem.W.Frag, K.In h ∧ obsS fa fn K = He.valD fn
  of := fun _ _ e => ⟨_, He.frG_in, e⟩
  keeps := fun _ _ _ ⟨K, hK, c⟩ k => ⟨K, PySem.W.Frag.In.keeps hK k, c⟩
theorem obsSG_eq {n : Nat} {fa : List He.Fa} {fn : List He.DefD} {g : Addr → Option Obj} {s : Shared} (h : ∀ a, g a = s.heap.get? a) : obsSG n fa fn g = (hookS n fa fn).obs s := by
  have e : g = s.heap.get? := funext h
  rw [e]; rfl
/-- what the head tells: of K, of the module's names -/
structure Says (fa : List He.Fa) (fn : List He.DefD) (K : PySem.W.Frag) (mg : Str → Option Value) : Prop where
  c : He.SaysD fa fn K
  sys : Sysm K
  gl : ∃ h : Heap, K.In h ∧ h.Ns mainGlobals mg
theorem Says.of {fa : List He.Fa} {fn : List He.DefD} {K : PySem.W.Frag} {mg : Str → Option Value} {h : Heap} (X : K.In h) (G : h.Ns mainGlobals mg) (e : obsS fa fn K = He.valD fn) : Says fa fn K mg := by
  have e1 : ((He.obsD fa fn K).1 && (K.lookup sysModules).isSome) = true := congrArg (fun z : He.AlD => z.1) e
  have e2 : (obsS fa fn K).2 = (He.valD fn).2 := congrArg (fun z : He.AlD => z.2) e
  have e2 : (He.obsD fa fn K).2 = (He.valD fn).2 := e2
  obtain ⟨h1, h2⟩ := Bool.and_eq_true_iff.mp e1
  refine ⟨?_, Option.isSome_iff_exists.mp h2, h, X, G⟩
  show He.obsD fa fn K = He.valD fn
  have : He.obsD fa fn K = ((He.obsD fa fn K).1, (He.obsD fa fn K).2) := rfl
  rw [this, h1, e2]
  rfl
section
variable {fa : List He.Fa} {fn : List He.DefD} {K : PySem.W.Frag} {mg : Str → Option Value}
theorem Says.no (S : Says fa fn K mg) (i : Nat) {x : Str} (h : fa[i]? = some (.free x)) : mg x = none := let ⟨_, X, G⟩ := S.gl; He.free_ok X G (S.c.fact i h)
theorem Says.in_ (S : Says fa fn K mg) (i : Nat) {x : Str} {n : Int} (h : fa[i]? = some (.int x n)) : ∃ t, mg x = some (.int n t) := let ⟨_, X, G⟩ := S.gl; He.int_ok X G (S.c.fact i h)
theorem Says.st (S : Says fa fn K mg) (i : Nat) {x z : Str} (h : fa[i]? = some (.str x z)) : ∃ t, mg x = some (.str z t) := let ⟨_, X, G⟩ := S.gl; He.str_ok X G (S.c.fact i h)
theorem Says.go (S : Says fa fn K mg) (i : Nat) {x : Str} (h : fa[i]? = some (.glo x)) : mg x = some (.ref (He.ga K x)) := let ⟨_, X, G⟩ := S.gl; He.glo_ok X G (S.c.fact i h)
/-- a def of the module keeps its promise -/
theorem prm_of {P : Program} {w : World} {base : Heap} {T : List (Addr × Str)} {k : Nat} {N ps : List Str} {κ : Kd} {m : Sx} (S : Says fa fn K mg) (i j : Nat) {d : He.DefD} (hd : fn[i]? = some d) {x : Str} (hx : fa[j]? = some (.glo x)) (hat : d.at_ = (x, none)) (hdf : d.dfl = []) (hkw : d.kwd = [])
    (sc : FnScope N ps d.scope)
    (hb : ∀ (kV doc pm : Value) (an : Option Addr) (cdv ct : Value) (us : List Value), us.length = ps.length → bindArgs (PySem.W.fnOf d.name d.qual d.params d.body d.scope .none kV doc pm an cdv ct) ⟨us, []⟩ = pure (ps.zip us))
    (hbody : ∀ (f : Addr) (cd : Value) (A : Around) (outer : List Env) (s : Shared) (W : Wd) (E : XK), W.T = T → Gd (bodyC P w K mg base N d.qual d.scope f cd A outer s W E) k → PassesOwn (model P w) (A.deeper (PyProof.Rows.envOfC d.qual d.scope s.heap.objs.size f cd)) (PyProof.Rows.envOfC d.qual d.scope s.heap.objs.size f cd) (bodyC P w K mg base N d.qual d.scope f cd A outer s W E).X.xe →
      SSs (bodyC P w K mg base N d.qual d.scope f cd A outer s W E) κ d.body m) : Prm P w K mg base T (k + 1) x ps κ (callS κ m) := by
  obtain ⟨fd, FD⟩ := S.c.def_ i hd
  have hmg := S.go j hx
  have ef : He.fAd K d.at_ = He.ga K x := by rw [hat]; rfl
  rw [ef] at FD
  have e1 : d.dvs K = [] := by unfold He.DefD.dvs; rw [hdf]; rfl
  have e2 : d.kws K = [] := by unfold He.DefD.kws; rw [hkw]; rfl
  rw [e1, e2] at FD
  exact ⟨_, fd, hmg, FD.bindsN hb, FD.kp, fnG_of FD sc S.sys rfl (hbody _)⟩
end

theorem gl_of {X : Cx} {x : Str} (h : X.env.kindOf x = some .globalImplicit) : Gl X x := h
theorem gl_len_nil : ∀ (ds : List D) (env env' : En), gNl ds env = some env' → ds.length = 0 := fun ds env env' h => by
  cases ds with
  | nil => rfl
  | cons d ds => cases h
theorem gl_len_cons {g : Gx} {gs : List D → En → Option En} {n : Nat} (h : ∀ (ds : List D) (env env' : En), gs ds env = some env' → ds.length = n) : ∀ (ds : List D) (env env' : En), gCs g gs ds env = some env' → ds.length = n + 1 := fun ds env env' e => by
  cases ds with
  | nil => cases e
  | cons d ds =>
    have e' : (g d env).bind (gs ds) = some env' := e
    cases q : g d env with
    | none => rw [q] at e'; cases e'
    | some env1 =>
      rw [q] at e'
      rw [List.length_cons, h ds env1 env' e']
/-! ### {k: v} -/
def keyD : D → Option Key
  | .int i => some (.inl i)
  | .str x => some (.inr x)
  | _ => none
theorem keyD_is {d : D} {q : Key} (h : keyD d = some q) : d = kD q := by
  cases d with
  | int i => cases h; rfl
  | str x => cases h; rfl
  | _ => cases h
def dct1 (k v : D) : M D := lift ((keyD k).map fun _ => .dct [(k, v)])
def eDct1 (k v : Ex) : Ex := fun env => bnd (k env) fun a => bnd (v env) fun b => dct1 a b
theorem se_dct1 {C : Cn} {ke ve : Expr} {mk mv : Ex} {pos : Pos} (hk : SE C .froz ke mk) (hv : SE C .froz ve mv) : SE C .fresh (.Dict [some ke] [ve] pos) (eDct1 mk mv) :=
  PE.imp (pe_disp (pps_cons hk hv pps_nil) rfl rfl (by simp) (by show 1 ≤ 15; decide)) fun σ H Q ⟨env, W, st, e, R, o⟩ => by
    subst e
    intro p np
    have e0 : Ext W (W.new p (.dK [])) := new_ext np
    have k0 : C.ok (W.new p (.dK [])) st := new_ok R.ok np
    have keep : ∀ {W2 : Wd}, Ext (W.new p (.dK [])) W2 → W2.H p = some (.dK []) ∧ W2.G p = none ∧ p ∉ W2.as := fun {W2} e2 => by
      have na := new_as (o := .dK []) R.ok np
      have ng := new_g (o := .dK []) R.ok np
      have h1 : W2.H p = some (.dK []) := e2.h p _ upd_same na
      refine ⟨h1, ?_, notas e2 (fun z => nn_no z (show upd W.H p _ p = _ from upd_same)) na⟩
      cases z : W2.G p with
      | none => rfl
      | some u =>
        exact (nn_no (e2.gn p ng (by rw [z]; intro q; cases q)) (show (W.new p (.dK [])).H p = some (.dK []) from upd_same)).elim
    refine ⟨env, W.new p (.dK []), st, rfl, R.up e0 k0, ((Out.bnd o).up e0).imp fun d1 st1 o1 x W1 e1 k1 r1 => ⟨env, W1, st1, rfl, (R.up e0 k0).up e1 k1, ((Out.bnd o1).up (e0.trans e1)).imp fun d2 st2 o2 y W2 e2 k2 r2 => ?_⟩⟩
    obtain ⟨h1, h2, h3⟩ := keep (e1.trans e2)
    obtain ⟨dd, hd, o3⟩ := out_lift o2
    cases q : keyD d1 with
    | none => rw [q] at hd; cases hd
    | some key =>
      rw [q] at hd
      cases hd
      have ek := keyD_is q
      have r1' : Rp C.X.K C.X.mg W2.as W2.G d1 x := Rp.ext e2 r1
      have ex : x = kV key := by
        rw [ek] at r1'
        cases key with
        | inl i => simp only [kD, Rp] at r1'; exact r1'
        | inr z => simp only [kD, Rp] at r1'; exact r1'
      refine ⟨h1, [(key, y)], by rw [ex]; rfl, by show 1 ≤ 15; decide, ?_⟩
      show Q (.ref p) (upd W2.H p (.dK [(key, y)]))
      have n0 : Nn (W.H p) := nn_of np
      have e02 := (e0.trans e1).trans e2
      refine (show KEnd C .fresh W Q (.dct [(d1, d2)]) st2 from o3) (.ref p) (W2.new p (.dK [(key, y)])) (set_ext e02 n0) (set_ok k2 h2 h3 h1) ⟨p, rfl, n0, h2, h3, .inl ⟨[(key, y)], upd_same, ?_⟩⟩
      simp only [RpK]
      exact ⟨key, y, [], rfl, ek, r2, rfl⟩
/-- a law over a head by facts, by its def's promise -/
theorem walk_ofP {l : PySem.W.OpenLaw} {n k : Nat} {q : Program} {loose : List Str} {XP : (Str → Option Value) → Heap → Prop} {YP : World → Heap → Prop} {d : DefRec} {x nm : Str} {Fl : Fx}
    (hn : l.most = some n) (hn2 : n ≤ sizeLine) (hdf : d.params.defaults = []) (hr : Room k callerA) (hnm : d.name = nm)
    (F : ∀ (w : World) (mg : Str → Option Value) (h : Heap), YP w h → h.Ns mainGlobals mg → ∃ K : PySem.W.Frag, K.In h ∧ ∀ base : Heap, Prm l.prog w K mg base [] k nm [x] .froz Fl)
    (hF : ∀ ns : List Int, ns.length ≤ n → ∃ st', Fl [scrD ns] [] = .ok (.bl true) st') :
    PySem.W.WalkO q loose XP YP l.row.toRowW d [] (fun f vs => PySem.call f vs) := by
  refine Att.attach_call hn hdf fun w s₀ s₁ mg mb fa o pm cd doc a vs ns G Y ho hd hcd hmg hobj hints hlen hg => ?_
  obtain ⟨K, KX, hP⟩ := F w mg _ Y G.T.g
  refine law_end KX G.T.g G.T.b G.T.builtins G.T.nolimit hg hobj hints (Nat.le_trans hlen hn2) fun base H hK hN hS hnT e0 => ?_
  obtain ⟨f, fd, hm, hb, _, FG⟩ := hP base
  rw [hnm] at hmg
  cases hm.symm.trans hmg
  exact law_run FG hr e0 (hb s₁ [.ref a] KX rfl) hS hnT (hF ns hlen)
end Sm


set_option Elab.async false
set_option linter.all false
set_option maxRecDepth 100000
set_option maxHeartbeats 1000000
/-! Sm16: str(i), int(text), x[::-1], sorted, list(range), index. -/
namespace Sm
open PySem PySem.Spec L2
/-! ### str, int of texts -/
def strD : D → Option D
  | .int i => if i.natAbs.log2 < 1920 then some (.str (toString i)) else none
  | _ => none
def intT : D → Option D
  | .str a => if a.length ≤ 640 then (PySem.intText? a).map .int else none
  | _ => none
section
variable {C : Cn}
theorem sf_str : SFn C .froz (.type "str") (g1 fun d => lift (strD d)) := sfn1 fun pins s σ W st d v u Q I k b ru o => by
  cases d with
  | int i =>
    have ev := b.int
    subst ev
    have o' : Out C σ W (lift (if i.natAbs.log2 < 1920 then some (D.str (toString i)) else none) st) _ := o
    by_cases hz : i.natAbs.log2 < 1920
    · rw [if_pos hz] at o'
      exact call_str_int pins s σ W.H _ [u] Q I (.cons ru .nil) ⟨i, rfl, hz, o' _ W (.refl W) k rk_str⟩
    · rw [if_neg hz] at o'; exact (show False from o').elim
  | _ => exact (show False from o).elim
theorem sf_intT : SFn C .froz (.type "int") (g1 fun d => lift (intT d)) := sfn1 fun pins s σ W st d v u Q I k b ru o => by
  cases d with
  | str i =>
    have ev := b.str
    subst ev
    have o' : Out C σ W (lift (if i.length ≤ 640 then (PySem.intText? i).map D.int else none) st) _ := o
    by_cases hz : i.length ≤ 640
    · rw [if_pos hz] at o'
      cases q : PySem.intText? i with
      | none => rw [q] at o'; exact (show False from o').elim
      | some n =>
        rw [q] at o'
        exact call_int_str pins s σ W.H _ [u] Q I (.cons ru .nil) ⟨i, n, rfl, q, hz, o' _ W (.refl W) k rk_int⟩
    · rw [if_neg hz] at o'; exact (show False from o').elim
  | _ => exact (show False from o).elim
end
/-! ### x[::-1] -/
section
open HT PyProof.Rows
variable {prog : Program} {w : World} {A : Around} {E : Value → Shared → Prop} {s : Shared}
theorem fmap_map {α β : Type} {f : α → Option β} {g : α → β} : ∀ l : List α, (∀ k ∈ l, f k = some (g k)) → l.filterMap f = l.map g
  | [], _ => rfl
  | x :: l, h => by
    rw [List.filterMap_cons_some (h x List.mem_cons_self), fmap_map l fun k hk => h k (List.mem_cons_of_mem _ hk), List.map_cons]
theorem pick_rev (xs : Array Value) : ((List.range xs.size).filterMap fun (k : Nat) => xs[(((xs.size : Int) - 1) + (k : Int) * (-1)).toNat]?).toArray = xs.toList.reverse.toArray := by
  congr 1
  apply List.ext_getElem?
  intro i
  have h2 : ∀ k ∈ List.range xs.size, xs[(((xs.size : Int) - 1) + (k : Int) * (-1)).toNat]? = some (xs.getD (xs.size - 1 - k) .none) := fun k hk => by
    have hk := List.mem_range.mp hk
    have e : (((xs.size : Int) - 1) + (k : Int) * (-1)).toNat = xs.size - 1 - k := by omega
    rw [e, Array.getElem?_eq_getElem (by omega), Array.getD_eq_getD_getElem?, Array.getElem?_eq_getElem (by omega)]
    rfl
  have h3 : (List.range xs.size).filterMap (fun (k : Nat) => xs[(((xs.size : Int) - 1) + (k : Int) * (-1)).toNat]?) = (List.range xs.size).map fun k => xs.getD (xs.size - 1 - k) .none := fmap_map _ h2
  rw [h3]
  by_cases hi : i < xs.size
  · rw [List.getElem?_map, List.getElem?_range hi, List.getElem?_reverse (by simpa using hi)]
    simp only [Option.map_some, Array.length_toList]
    rw [Array.getD_eq_getD_getElem?, Array.getElem?_eq_getElem (by omega), Array.getElem?_toList, Array.getElem?_eq_getElem (by omega)]
    rfl
  · rw [List.getElem?_eq_none (by simpa using hi), List.getElem?_eq_none (by simpa using hi)]
theorem getItem_tuple_rev {t sl : Addr} {items : Array Value} {vl vu vs : Value} {Q : Value → Shared → Prop} (ht : IsTup s.heap t items) (hs : s.heap.IsSliceOf sl vl vu vs) (pl : IsPart vl none) (pu : IsPart vu none) (ps : IsPart vs (some (-1)))
    (h : Q (.ref s.heap.objs.size) { s with heap := s.heap.push { cls := .type "tuple", data := .seq items.toList.reverse.toArray } })
    (hsz : items.size ≤ sizeLine) : wpAny (model prog w) A (getItem (.ref t) (.ref sl)) Q E s := by
  have htake : sizeOk (.seq items.toList.reverse.toArray) := by
    show items.toList.reverse.toArray.size ≤ sizeLine
    rw [List.size_toArray, List.length_reverse, Array.length_toList]
    exact hsz
  obtain ⟨os, hos, hcs, hds⟩ := id hs
  have hTs : s.TypeIs (.ref sl) "slice" := ⟨os, hos, hcs⟩
  unfold getItem
  try with_reducible refine wpAny_holding ?_
  first | refine wpAny_bind (wpAny_pure ?_) | skip
  refine wpAny_bind (wpAny_sequenceKey ht.typeIs (by decide) ?_)
  refine wpAny_bind (wpAny_callSpecial?_slot (name := Str.ofString "__getitem__") ht.typeIs PyProof.Rows.slot_tuple_getitem
    (wpAny_call_entry PyProof.Rows.slot_tuple_getitem ht.typeIs entry_tuple_getitem ?_ (args_tuple_getitem _ _)))
  show wpAny _ _ (Builtin.Tuple.tupleItemsOf (.ref t) >>= _) _ _ s
  refine wpAny_bind (tupleItemsOf_ ht ?_)
  refine wpAny_bind (wpAny_typeOf hTs ?_)
  rw [if_pos (by decide)]
  refine wpAny_bind ?_
  · unfold Builtin.Slice.sliceApplied Builtin.Slice.sliceFields
    refine wpAny_bind (wpAny_bind (wpAny_field hos hds (x := vl) rfl (wpAny_bind (wpAny_field hos hds (x := vu) rfl (wpAny_bind (wpAny_field hos hds (x := vs) rfl (wpAny_pure ?_)))))))
    refine wpAny_bind (slicePart_ ps ?_)
    show wpAny _ _ (if ((-1 : Int) == 0) = true then _ else _) _ _ s
    rw [if_neg (by decide)]
    refine wpAny_bind (slicePart_ pl (wpAny_bind (slicePart_ pu (wpAny_bind (wpAny_pure ?_)))))
    have ea : Builtin.Slice.sliceAdjust none none (-1) (items.size : Int) = ((items.size : Int) - 1, -1) := by
      simp [Builtin.Slice.sliceAdjust]
    have ep : Builtin.Slice.slicePlaces ((items.size : Int) - 1) (-1) (-1) = items.size := by
      unfold Builtin.Slice.slicePlaces
      simp
      omega
    show wpAny _ _ (match Builtin.Slice.sliceAdjust none none (-1) (items.size : Int) with | (lo, hi) => pure (lo, (-1 : Int), Builtin.Slice.slicePlaces lo hi (-1))) _ _ s
    rw [ea]
    show wpAny _ _ (pure ((items.size : Int) - 1, (-1 : Int), Builtin.Slice.slicePlaces ((items.size : Int) - 1) (-1) (-1))) _ _ s
    rw [ep]
    refine wpAny_pure ?_
    have hno : ¬ ((((items.size : Int) - 1) == 0 && (-1 : Int) == 1 && items.size == items.size) = true) := by simp
    show wpAny _ _ (if (((items.size : Int) - 1) == 0 && (-1 : Int) == 1 && items.size == items.size) = true then _ else _) _ _ s
    rw [if_neg hno, pick_rev]
    first
      | exact wpAny_bind (m := Builtin.Tuple.tupleExact _) (wpAny_newObj_type (wpAny_pure ⟨_, rfl, wpAny_pure h⟩) htake)
      | exact wpAny_bind (m := Builtin.Tuple.tupleExact _) (wpAny_newObj_type (wpAny_bind (wpAny_pure (wpAny_pure ⟨_, rfl, wpAny_pure h⟩))) htake)
      | exact wpAny_bind (wpAny_bind (m := Builtin.Tuple.tupleExact _) (wpAny_newObj_type (wpAny_pure (wpAny_pure ⟨_, rfl, wpAny_pure h⟩)) htake))
      | exact wpAny_bind (wpAny_bind (m := Builtin.Tuple.tupleExact _) (wpAny_newObj_type (wpAny_pure ⟨_, rfl, wpAny_pure h⟩) htake))
end
/-- x[::-1] -/
def revD (d : D) : Option D := match d with
  | .tup xs => some (.tup xs.reverse)
  | .lst xs => some (.lst xs.reverse)
  | .scr xs => some (.lst xs.reverse)
  | _ => none
def eRev (a : Ex) : Ex := fun env => bnd (a env) fun d => lift (revD d)
def tRevA (K : PySem.W.Frag) (te : TE) : TE := fun σ H Q => te σ H fun x H1 => ∃ a xs, x = .ref a ∧ ((SqL K H1 a xs ∧ ∀ p, H1 p = none → Q (.ref p) (upd H1 p (.lst xs.reverse))) ∨ (SqT K H1 a xs ∧ QT Q H1 xs.reverse))
open PyProof.Rows in
theorem pe_revA {X : Cx} {e : Expr} {te : TE} {k : Nat} {p1 p2 p3 pos : Pos} (he : PE X e te) : PE X (.Subscript e (.Slice none none (some (.UnaryOp .USub (.Constant (.int 1) k p1) p2)) p3) pos) (tRevA X.K te) := by
  refine ⟨fun pins s σ H Q I h => ?_⟩
  refine PyProof.Rows.Subscript_ (thn (he.run pins s σ H _ I h) fun v s1 ⟨x, H1, I1, r1, q1⟩ => ?_)
  obtain ⟨a, xs, ex, hx⟩ := q1
  subst ex
  cases r1
  have hst : PO X (some (.UnaryOp .USub (.Constant (.int 1) k p1) p2)) (tPart (tUn (rU fun i => .int (-i)) (tC (.int 1)))) := po_some (pe_un un_neg pe_int)
  refine wpAny_Slice (thn (po_none.run pins s1 σ H1 (fun o H2 => o = none ∧ H2 = H1) I1 ⟨rfl, rfl⟩) fun vl s2 ⟨l, H2, I2, pl, el, e2⟩ => ?_)
  subst el e2
  refine thn (po_none.run pins s2 σ H2 (fun o H3 => o = none ∧ H3 = H2) I2 ⟨rfl, rfl⟩) fun vu s3 ⟨u, H3, I3, pu, eu, e3⟩ => ?_
  subst eu e3
  refine thn (hst.run pins s3 σ H3 (fun o H4 => o = some (-1) ∧ H4 = H3) I3 ⟨1, rfl, -1, rfl, rfl, rfl⟩) fun vs s4 ⟨o, H4, I4, ps, eo, e4⟩ => ?_
  subst eo e4
  have I5 : Inv X pins σ H4 { s4 with heap := s4.heap.push { cls := .type "slice", data := .fields #[vl, vu, vs] } } := I4.kept (t' := s4.toks) fun b ob q => Heap.get?_push_of_some _ q
  show wpAny (model X.prog X.w) X.A (subscriptTail e (.Slice none none (some (.UnaryOp .USub (.Constant (.int 1) k p1) p2)) p3) (.ref a) (.ref s4.heap.objs.size)) (EP X pins σ Q) X.xe { s4 with heap := s4.heap.push { cls := .type "slice", data := .fields #[vl, vu, vs] } }
  rcases hx with ⟨hx, q⟩ | ⟨hx, q⟩
  · obtain ⟨its, r, ht, hz⟩ := I5.list hx
    have hlen := r.length
    refine tail_any (ops := [.ref a, .ref s4.heap.objs.size]) ht.isList.typeIs (PySem.slot_list_getitem.lookup) ?_ (by with_unfolding_all rfl)
    refine wpAny_getItem_list_slice ht.isList (Heap.IsSliceOf.new _ vl vu vs) pl pu ps (by decide) ?_ (by rw [List.size_toArray]; omega)
    rw [PySem.W.krv_pick]
    refine ⟨.ref _, _, I5.laid (t' := s4.toks) (o := .lst xs.reverse) (fun b ob q => Heap.get?_push_of_some _ q) (Nat.le_refl _) ?_, rfl, q _ (I5.hok.fresh (Nat.le_refl _))⟩
    exact ⟨by rw [List.length_reverse]; exact hz, _, 0, r.reverse, Heap.get?_push_size _ rfl⟩
  · obtain ⟨its, r, ht, hz⟩ := I5.tuple hx
    have hlen := r.length
    refine tail_any (ops := [.ref a, .ref s4.heap.objs.size]) ht.typeIs (PyProof.Rows.slot_tuple_getitem.lookup) ?_ (by with_unfolding_all rfl)
    refine getItem_tuple_rev ht (Heap.IsSliceOf.new _ vl vu vs) pl pu ps ?_ (by rw [List.size_toArray]; omega)
    exact newTup (t := s4.toks) (its := its.reverse) I5 (r.reverse) (by rw [List.length_reverse]; exact hz) q
theorem RpL.rev {K : PySem.W.Frag} {mg : Str → Option Value} {as : List Addr} {G : Hp} : ∀ {ds : List D} {vs : List V}, RpL K mg as G ds vs → RpL K mg as G ds.reverse vs.reverse
  | [], vs, h => by simp only [RpL] at h; subst h; simp [RpL]
  | d :: ds, vs, h => by
    simp only [RpL] at h
    obtain ⟨v, r, e, h1, h2⟩ := h
    subst e
    rw [List.reverse_cons, List.reverse_cons]
    exact (RpL.rev h2).app (.one h1)
section
variable {C : Cn} {κ : Kd} {a : Expr} {ma : Ex} {k : Nat} {p1 p2 p3 pos : Pos}
theorem se_rev (ha : SE C κ a ma) : SE C .froz (.Subscript a (.Slice none none (some (.UnaryOp .USub (.Constant (.int 1) k p1) p2)) p3) pos) (eRev ma) :=
  PE.imp (pe_revA ha) fun σ H Q ⟨env, W, st, e, R, o⟩ => by
    subst e
    refine ⟨env, W, st, rfl, R, (Out.bnd o).imp fun d st1 o1 v W1 e1 k1 r1 => ?_⟩
    have b1 := r1.bor
    have fin : ∀ {xs : List D} {vs : List V} {p : Addr}, v = .ref p → SqL C.X.K W1.H p vs → RpL C.X.K C.X.mg W1.as W1.G xs vs → (∀ z W', Ext W W' → C.ok W' st1 → C.rk .froz W W' (.lst xs.reverse) z → Q z W'.H) → ∃ a xs, v = .ref a ∧ ((SqL C.X.K W1.H a xs ∧ ∀ p, W1.H p = none → Q (.ref p) (upd W1.H p (.lst xs.reverse))) ∨ (SqT C.X.K W1.H a xs ∧ QT Q W1.H xs.reverse)) :=
      fun {xs vs p} ev hp r q => ⟨_, _, ev, .inl ⟨hp, fun p' np => by
        have ng := new_g (o := .lst vs.reverse) k1 np
        have na := new_as (o := .lst vs.reverse) k1 np
        exact q _ ((W1.new p' (.lst vs.reverse)).frz p') (e1.trans (frz_ext (new_ext np) (nn_of np) ng)) (frz_ok (new_ok k1 np) ng na (new_nt rfl)) (frz_rp ng ⟨_, upd_same, r.rev⟩)⟩⟩
    cases d with
    | lst xs =>
      obtain ⟨p, vs, ev, hp, r⟩ := b1.lst k1
      exact fin ev (.inl (.inl hp)) r o1
    | scr xs =>
      obtain ⟨p, vs, ev, hp, r⟩ := b1.scr k1
      exact fin ev hp r o1
    | tup xs =>
      have q : ∀ z W', Ext W W' → C.ok W' st1 → C.rk .froz W W' (.tup xs.reverse) z → Q z W'.H := o1
      obtain ⟨p, vs, ev, hp, r⟩ := b1.tup k1
      exact ⟨p, vs, ev, .inr ⟨hp, fun p' ob np no => q _ (W1.newT p' ob vs.reverse) (e1.trans (newT_ext k1 np)) (newT_ok k1 np) (newT_rp k1 np no r.rev)⟩⟩
    | _ => exact False.elim (show False from o1)
end

/-! ### sorted -/
section
open PyProof.Rows
variable {prog : Program} {w : World} {A : Around} {E : Value → Shared → Prop} {s : Shared}
theorem collect_tuple {l : Addr} {vs : List Value} {Q : List Value → Shared → Prop} (hl : s.heap.IsTuple l vs.toArray)
    (h : Q vs { s with heap := (s.heap.push (seqObj "list" #[] 0)).update s.heap.objs.size (Obj.mapSeq (· ++ vs.toArray)) }) (hsz : vs.length ≤ sizeLine) :
    wpAny (model prog w) A (collect (.ref l)) Q E s := by
  obtain ⟨o, ho, hc, n, hd⟩ := id hl
  unfold collect
  refine wpAny_bind (wpAny_runValue (codeAny_builtin entry_proto_collect' ?_))
  show wpAny _ _ (do again (.builtin "list.__iadd__" ⟨[← newList [], .ref l], []⟩)) _ _ s
  refine wpAny_bind (wpAny_newList (wpAny_pure ⟨Code.quiet_builtin _ (by decide +kernel), codeAny_builtin entry_list_iadd' ?_⟩))
  show wpAny _ _ (Builtin.List.listExtendWith (.ref s.heap.objs.size) (.ref l) (.ref s.heap.objs.size)) _ _ { s with heap := s.heap.push (seqObj "list" #[] 0) }
  unfold Builtin.List.listExtendWith
  have ho' : (s.heap.push (seqObj "list" #[] 0)).get? l = some o := Heap.get?_push_of_some _ ho
  refine wpAny_bind (wpAny_typeOf (T := "tuple") ⟨o, ho', hc⟩ ?_)
  have ht : (Value.type "tuple" == Value.type "tuple") = true := by rfl
  rw [if_pos (by rw [ht]; simp)]
  refine wpAny_bind (listItems_at ho' hd ?_)
  refine wpAny_bind (listItems_at (xs := #[]) (n := 0) (Heap.get?_push_size _ rfl) rfl ?_)
  rw [if_neg (by simp)]
  refine wpAny_bind (listUpdate_at (xs := #[]) (n := 0) (Heap.get?_push_size _ rfl) rfl ?_ (Nat.zero_le _) (by show (#[] ++ vs.toArray).size ≤ sizeLine + 1; simp only [Array.size_append, List.size_toArray, List.length_nil]; omega))
  refine wpAny_pure ?_
  show wpAny (model prog w) A (do
      let o ← load s.heap.objs.size
      match o.data with
      | .seq xs _ => pure xs.toList
      | _ => unsupported "internal:collect") Q E { s with heap := (s.heap.push (seqObj "list" #[] 0)).update s.heap.objs.size (Obj.mapSeq (· ++ vs.toArray)) }
  refine wpAny_bind (wpAny_load (get?_update_seq (Heap.get?_push_size _ rfl) _) ?_)
  show wpAny _ _ (pure ((#[] : Array Value) ++ vs.toArray).toList) Q E _
  rw [show ((#[] : Array Value) ++ vs.toArray).toList = vs by simp]
  exact wpAny_pure h
theorem sorted_of_sortT {l : Addr} {vs : List Value} {Q : Value → Shared → Prop} (hl : s.heap.IsTuple l vs.toArray) (hL : vs.length ≤ sizeLine)
    (body : ∀ E' : Value → Shared → Prop, wpAny (model prog w) A.in1.in1 (Builtin.«list.sort» ⟨[.ref (s.heap.objs.size + 1)], []⟩) (fun f s' => f = .done (.ret .none) ∧ Q (.ref (s.heap.objs.size + 1)) s') E' { s with heap := PySem.W.copyHeap s.heap vs }) :
    wpAny (model prog w) A (call (.builtin "sorted") [.ref l]) Q E s := by
  refine Calls.call_function_entry kind_sorted plain_sorted entry_sorted (args_sorted1 _) ?_
  unfold Builtin.«sorted»
  refine wpAny_bind (m := checkCount "sorted" 1 1 _) (wpAny_pure ?_)
  refine wpAny_bind (collect_tuple hl ?_ hL)
  refine wpAny_bind (wpAny_newList ?_ hL)
  have hsz : ((s.heap.push (seqObj "list" #[] 0)).update s.heap.objs.size (Obj.mapSeq (· ++ vs.toArray))).objs.size = s.heap.objs.size + 1 := by
    rw [Heap.size_update, size_push']
  show wpAny _ _ _ _ _ { s with heap := PySem.W.copyHeap s.heap vs }
  rw [hsz]
  refine wpAny_bind (wpAny_holding (wpAny_call_entry slot_list_sort ⟨_, PySem.W.copyHeap_at s.heap vs, rfl⟩ entry_list_sort ?body (args_list_sort _)))
  case body =>
    show wpAny (model prog w) A.in1.in1 (Builtin.«list.sort» ⟨[.ref (s.heap.objs.size + 1)], []⟩) _ _ _
    refine wpAny_mono (body _) (fun f s' hf => ?_) fun _ _ e => e
    obtain ⟨rfl, hq⟩ := hf
    exact ⟨_, rfl, wpAny_pure ⟨_, rfl, hq⟩⟩
end

def isTp : D → Bool
  | .tup (_ :: _) => true
  | _ => false
def noTp : D → Bool
  | .tup _ => false
  | _ => true
def srtOk (ds : List D) : Bool := alkL ds && (ds.all isTp || ds.all noTp)
def sortL (ds : List D) : List D := ds.mergeSort fun a b => !D.lt b a
def sortD (d : D) : Option D := (lotD d).bind fun p => if srtOk p.2 = true then some (.lst (sortL p.2)) else none
theorem srtOk_is {ds : List D} (h : srtOk ds = true) : shpL 60 ds = true ∧ PySem.W.AllAlike (ds.map D.py) ∧ PySem.W.Sortable (ds.map D.py) := by
  unfold srtOk at h
  obtain ⟨h1, h2⟩ := and2 h
  obtain ⟨h3, h4⟩ := alkL_is h1
  rw [pyL_map] at h4
  refine ⟨h3, fun d hd d' hd' => h4.1 d hd d' hd', ?_⟩
  rcases Bool.or_eq_true_iff.mp h2 with q | q
  · refine .inl fun d hd => ?_
    obtain ⟨x, hx, rfl⟩ := List.mem_map.mp hd
    have z := List.all_eq_true.mp q x hx
    cases x with
    | tup xs =>
      cases xs with
      | nil => cases z
      | cons a r => exact ⟨a.py, pyL r, by simp only [D.py, pyL]⟩
    | _ => cases z
  · refine .inr fun d hd => ⟨h4.2 d hd, ?_⟩
    obtain ⟨x, hx, rfl⟩ := List.mem_map.mp hd
    have z := List.all_eq_true.mp q x hx
    intro xs e
    cases x with
    | tup _ => cases z
    | _ => simp [D.py] at e
theorem dataLe_py : PySem.W.dataLe false D.py = fun a b => !D.lt b a := by
  rw [PySem.W.dataLe_eq]; rfl
section
variable {C : Cn}
theorem each_out {W : Wd} : ∀ {out : List Value} {ds : List D}, PySem.W.EachIs (fun v d => ∃ w, RelV w v ∧ C.rp W d w) out ds → ∃ vs : List V, Vals vs out ∧ RpL C.X.K C.X.mg W.as W.G ds vs
  | _, _, .nil => ⟨[], .nil, by simp [RpL]⟩
  | _, _, .cons ⟨w, h1, h2⟩ t => by
    obtain ⟨vs, h3, h4⟩ := each_out t
    exact ⟨w :: vs, .cons h1 h3, by simp only [RpL]; exact ⟨w, vs, rfl, h2, h4⟩⟩
theorem out_each {W : Wd} : ∀ {its : List Value} {ds : List D} {vs : List V}, Vals vs its → RpL C.X.K C.X.mg W.as W.G ds vs → PySem.W.EachIs (fun v d => ∃ w, RelV w v ∧ C.rp W d w) its ds
  | _, [], _, r, h => by
    simp only [RpL] at h
    subst h
    cases r
    exact .nil
  | _, d :: ds, _, r, h => by
    simp only [RpL] at h
    obtain ⟨v, rr, e, h1, h2⟩ := h
    subst e
    cases r with
    | cons r1 r2 => exact .cons ⟨v, r1, h1⟩ (out_each r2 h2)
theorem sf_sorted (hs : Sysm C.X.K) (hu : C.X.A.units + 64 < cLine) : SFn C .fresh (.builtin "sorted") (g1 fun d => lift (sortD d)) := sfn1 fun pins s σ W st d v u Q I k b ru o => by
  obtain ⟨dd, hd, o2⟩ := out_lift o
  unfold sortD at hd
  cases q : lotD d with
  | none => rw [q] at hd; cases hd
  | some p =>
    obtain ⟨lst, ds⟩ := p
    rw [q] at hd
    have hd : (if srtOk ds = true then some (D.lst (sortL ds)) else none) = some dd := hd
    by_cases ha : srtOk ds = true
    · rw [if_pos ha] at hd
      cases hd
      obtain ⟨hsh, hal, hso⟩ := srtOk_is ha
      obtain ⟨a, vs, its, l', eu, hl, rv, rr, l, hz⟩ := (lot_reads (n := 60) I hs k b ru q (datL_of_shp _ _ hsh)).ex
      subst eu
      have hlen : ds.length = its.length := by rw [l.len, rv.length]
      have hzl : ds.length ≤ sizeLine := by rw [l.len]; exact hz
      have er : PySem.W.EachIs (fun v b => ∃ as, Reads s.heap v (D.py b) as) its ds := PySem.W.readsAll_each D.py (by rw [← pyL_map]; exact rr)
      have ee := out_each rv l
      have hdp : ∀ b, b ∈ ds → C.X.A.units + 2 + (D.py b).depth < cLine := fun b hb => by
        have := dep60 (shp_mem hsh hb)
        omega
      have fin : ∀ out : List Value, out.length = ds.length → PySem.W.EachIs (fun v d => ∃ w, RelV w v ∧ C.rp W d w) out (ds.mergeSort (PySem.W.dataLe false D.py)) → EP C.X pins σ Q (.ref (s.heap.objs.size + 1)) { s with heap := PyProof.Rows.sortedAll s.heap its out.toArray } := fun out h1 h2 => by
        rw [dataLe_py] at h2
        obtain ⟨ws, h3, h4⟩ := each_out h2
        obtain ⟨ep, he'⟩ := PyProof.Rows.sortedAll_at s.heap its out.toArray
        have np : W.H (s.heap.objs.size + 1) = none := I.hok.fresh (Nat.le_succ _)
        refine ⟨.ref _, upd W.H (s.heap.objs.size + 1) (.lst ws), I.laid (t' := s.toks) (fun _ _ => PyProof.Rows.sortedAll_old) (Nat.le_succ _) ⟨by rw [h3.length, h1]; exact hzl, out, ep, h3, he'⟩, rfl, ?_⟩
        exact o2 _ (W.new _ (.lst ws)) (new_ext np) (new_ok k np) (new_lst k np h4)
      cases lst with
      | true =>
        rw [if_pos rfl] at hl
        exact PySem.W.sorted_data hl ee er hal hso hzl hdp fin
      | false =>
        rw [if_neg Bool.false_ne_true] at hl
        have er' : PySem.W.EachIs (fun v b => ∃ as, Reads (PySem.W.sortingHeap (PySem.W.copyHeap s.heap its) (s.heap.objs.size + 1) its) v (D.py b) as) its ds := er.mono fun _ _ ⟨as, r⟩ => ⟨as, PyProof.Rows.Reads.keeps (fun _ _ => PySem.W.sorting_copy_old) r⟩
        refine sorted_of_sortT hl (by rw [← hlen]; exact hzl) fun _ => PySem.W.list_sort_vals (s := { s with heap := PySem.W.copyHeap s.heap its }) (PySem.W.copyHeap_at s.heap its)
          (PySem.W.SortsAt.data (s := { s with heap := PySem.W.sortingHeap (PySem.W.copyHeap s.heap its) (s.heap.objs.size + 1) its }) (PySem.W.each_map (R := fun v d => ∃ as, Reads (PySem.W.sortingHeap (PySem.W.copyHeap s.heap its) (s.heap.objs.size + 1) its) v d as) D.py er') hal hso (PySem.W.bound_map hdp)) (by rw [← hlen]; exact hzl) ⟨rfl, ?_⟩
        exact fin _ (by rw [PySem.W.sortVals_length false rfl]; exact ee.length) (PySem.W.sortVals_data false ee er' hal)
    · rw [if_neg ha] at hd; cases hd
end

/-! ### while -/
/-- at most so many turns -/
def whileS (t : Tx) (b : Sx) : Nat → Sx
  | 0 => fun _ => halt
  | n + 1 => fun env => bnd (t env) fun c => if c = true then bnd (b env) (fun f => match f with
    | .nx e => whileS t b n e
    | .rt d => ret (.rt d)) else ret (.nx env)
def sWhile (t : Tx) (b : Sx) : Sx := whileS t b 1000000
section
variable {C : Cn} {κ : Kd} {c : Expr} {body : List Stmt} {t : Tx} {b : Sx} {pos : Pos}
theorem ss_while (hp : PassesOwn (model C.X.prog C.X.w) C.X.A C.X.env C.X.xe) (hc : ST C c t) (hb : SSs C κ body b) : SS C κ (.While c body [] pos) (sWhile t b) :=
  PS.imp (ps_while hp hc hb) fun De σ H ⟨env, W0, st, e, R, o⟩ => by
    subst e
    refine ⟨fun m σ H => ∃ env W st, W.H = H ∧ SR C env W st σ ∧ Lat W0 W ∧ OutS C (whileS t b m env st) (kFl C κ De W0), ⟨1000000, env, W0, st, rfl, R, .refl _, o⟩, ?_⟩
    rintro m σ H ⟨env, W, st, rfl, R, l, o⟩
    cases m with
    | zero => exact False.elim o
    | succ m =>
      unfold whileS at o
      refine ⟨env, W, st, rfl, R, ((OutS.bnd o).out R.ext).imp fun x st' o' W' e' k' => ?_⟩
      by_cases z : x = true
      · rw [if_pos z] at o' ⊢
        refine ⟨fun σ' H' => ∃ env W st, W.H = H' ∧ SR C env W st σ' ∧ Lat W0 W ∧ OutS C (whileS t b m env st) (kFl C κ De W0), fun σ' H' h => ⟨m, by omega, h⟩, ?_⟩
        refine ⟨env, W', st', rfl, R.up e' k', (OutS.bnd o').imp fun f st2 o2 => ?_⟩
        cases f with
        | nx e2 => exact fun σ2 W2 R2 l2 => ⟨e2, W2, st2, rfl, R2, (l.trans e'.lat).trans l2, o2⟩
        | rt d => exact fun v W2 x2 k2 r2 => (show kFl C κ De W0 (.rt d) st2 from o2) v W2 x2 k2 r2
      · rw [if_neg z] at o' ⊢
        exact (show kFl C κ De W0 (.nx env) st' from o') σ W' (R.up e' k') (l.trans e'.lat)
end

/-! ### list(range) -/
def eRgL1 (m : Ex) : Ex := fun env => bnd (m env) fun d => lift (match d with | .int j => if sm62 j = true ∧ j ≤ line then some (.lst (rngD 0 j)) else none | _ => none)
def eRgL2 (a b : Ex) : Ex := fun env => bnd (a env) fun x => bnd (b env) fun y => lift (match x, y with | .int i, .int j => if (sm62 i && sm62 j) = true ∧ j - i ≤ line then some (.lst (rngD i j)) else none | _, _ => none)
section
variable {C : Cn} {κ κ2 : Kd} {e e2 : Expr} {me me2 : Ex} {p p2 pos pos2 : Pos}
theorem rng_lst {W : Wd} {lo hi : Int} : RpL C.X.K C.X.mg W.as W.G (rngD lo hi) (rgV lo hi) := by
  have e : rngD lo hi = ((List.range (hi - lo).toNat).map fun i : Nat => lo + (i : Int)).map D.int := by simp [rngD]
  rw [e]
  have := rpl_ints (K := C.X.K) (mg := C.X.mg) (as := W.as) (G := W.G) ((List.range (hi - lo).toNat).map fun i : Nat => lo + (i : Int))
  rw [List.map_map (f := fun i : Nat => lo + (i : Int)) (g := V.int)] at this
  exact this
theorem rg_ok {i j : Int} (h1 : sm62 i = true) (h2 : sm62 j = true) (h3 : j - i ≤ line) : RgOk i j := by
  have e : line = 2 ^ 24 := rfl
  rw [e] at h3
  refine ⟨(sm62_is h1).1, (sm62_is h1).2, (sm62_is h2).1, (sm62_is h2).2, by omega⟩
theorem se_rgL1 (hc : C.X.calm = true) (hg : Gl C.X "list") (hm : C.X.mg "list" = none) (hg2 : Gl C.X "range") (hm2 : C.X.mg "range" = none) (he : SE C κ e me) (na : starEach [e] C.X.env = (false, eval e C.X.env) :: starEach [] C.X.env := by rfl)
    (na2 : starEach [.Call (.Name "range" p2) [e] [] pos2] C.X.env = (false, eval (.Call (.Name "range" p2) [e] [] pos2) C.X.env) :: starEach [] C.X.env := by rfl) :
    SE C .fresh (.Call (.Name "list" p) [.Call (.Name "range" p2) [e] [] pos2] [] pos) (eRgL1 me) :=
  PE.imp (pe_listRg hc hg hm (prg_1 hg2 hm2 he na) na2) fun σ H Q ⟨env, W, st, e, R, o⟩ => by
    subst e
    refine ⟨env, W, st, rfl, R, (Out.bnd o).imp fun d st1 o1 v W1 e1 k1 r1 => ?_⟩
    cases d with
    | int j =>
      have ev := r1.bor.int
      subst ev
      obtain ⟨dd, hd, o2⟩ := out_lift o1
      have hd : (if sm62 j = true ∧ j ≤ line then some (D.lst (rngD 0 j)) else none) = some dd := hd
      by_cases z : sm62 j = true ∧ j ≤ line
      · rw [if_pos z] at hd
        cases hd
        refine ⟨j, rfl, rg_ok (by decide) z.1 (by have := z.2; omega), fun q nq => ?_⟩
        exact o2 _ (W1.new q (.lst (rgV 0 j))) (e1.trans (new_ext nq)) (new_ok k1 nq) (RK.down (κ := .fresh) e1 (new_lst k1 nq rng_lst))
      · rw [if_neg z] at hd; cases hd
    | _ => exact (show False from o1).elim
theorem se_rgL2 (hc : C.X.calm = true) (hg : Gl C.X "list") (hm : C.X.mg "list" = none) (hg2 : Gl C.X "range") (hm2 : C.X.mg "range" = none) (he : SE C κ e me) (he2 : SE C κ2 e2 me2)
    (h1 : starEach [e, e2] C.X.env = (false, eval e C.X.env) :: starEach [e2] C.X.env := by rfl) (h2 : starEach [e2] C.X.env = (false, eval e2 C.X.env) :: starEach [] C.X.env := by rfl) (hpl : (backTo pos2 (starEach [e2] C.X.env)).any (·.1) = false := by rfl)
    (na2 : starEach [.Call (.Name "range" p2) [e, e2] [] pos2] C.X.env = (false, eval (.Call (.Name "range" p2) [e, e2] [] pos2) C.X.env) :: starEach [] C.X.env := by rfl) :
    SE C .fresh (.Call (.Name "list" p) [.Call (.Name "range" p2) [e, e2] [] pos2] [] pos) (eRgL2 me me2) :=
  PE.imp (pe_listRg hc hg hm (prg_2 hg2 hm2 he he2 h1 h2 hpl) na2) fun σ H Q ⟨env, W, st, e, R, o⟩ => by
    subst e
    refine ⟨env, W, st, rfl, R, (Out.bnd o).imp fun d st1 o1 v W1 e1 k1 r1 => ⟨env, W1, st1, rfl, R.up e1 k1, ((Out.bnd o1).up e1).imp fun d2 st2 o2 v2 W2 e2 k2 r2 => ?_⟩⟩
    cases d with
    | int i =>
      cases d2 with
      | int j =>
        have ev := r1.bor.int
        have ev2 := r2.bor.int
        subst ev ev2
        obtain ⟨dd, hd, o3⟩ := out_lift o2
        have hd : (if (sm62 i && sm62 j) = true ∧ j - i ≤ line then some (D.lst (rngD i j)) else none) = some dd := hd
        by_cases z : (sm62 i && sm62 j) = true ∧ j - i ≤ line
        · rw [if_pos z] at hd
          cases hd
          obtain ⟨z1, z2⟩ := and2 z.1
          refine ⟨i, j, rfl, rfl, rg_ok z1 z2 z.2, fun q nq => ?_⟩
          exact o3 _ (W2.new q (.lst (rgV i j))) ((e1.trans e2).trans (new_ext nq)) (new_ok k2 nq) (RK.down (κ := .fresh) (e1.trans e2) (new_lst k2 nq rng_lst))
        · rw [if_neg z] at hd; cases hd
      | _ => exact (show False from o2).elim
    | _ => exact (show False from o2).elim
end
/-! ### a, b = x, y; a, b, c = x, y, z: frozen or own -/
def Kd.own : Kd → Bool
  | .fresh => true
  | _ => false
def Kd.sto : Kd → Bool
  | .bor => false
  | _ => true
theorem SR.putK {C : Cn} {κ : Kd} {env : En} {W W' : Wd} {st st' : Store} {σ : L2.St} {i : Nat} {d : D} {v : V} (R : SR C env W st σ) (e : Ext W W') (k : C.ok W' st') (hi : i < C.X.N.length) (hκ : κ.sto = true) (r : C.rk κ W W' d v) : SR C (env.put i κ.own d) W' st' (σ.set i (some v)) := by
  cases κ with
  | froz => exact (R.up e k).put hi r
  | bor => cases hκ
  | fresh => exact R.putOwn e k hi r
def sPar2 (κ1 κ2 : Kd) (i j : Nat) (m1 m2 : Ex) : Sx := fun env => bnd (m1 env) fun x => bnd (m2 env) fun y => ret (.nx ((env.put i κ1.own x).put j κ2.own y))
def sPar3 (κ1 κ2 κ3 : Kd) (i j l : Nat) (m1 m2 m3 : Ex) : Sx := fun env => bnd (m1 env) fun x => bnd (m2 env) fun y => bnd (m3 env) fun z => ret (.nx (((env.put i κ1.own x).put j κ2.own y).put l κ3.own z))
section
variable {C : Cn} {κ κ1 κ2 κ3 : Kd} {i j l : Nat} {x y z : Str} {a b c : Expr} {ma mb mc : Ex} {px py pz pt pos : Pos} {kt k2 : _} {pt2 : _}
theorem ss_par2 (hc : C.X.calm = true) (n : Nm C i x) (n' : Nm C j y) (hij : i ≠ j) (hx : C.X.env.scope.names.lookup x = some .local) (hy : C.X.env.scope.names.lookup y = some .local) (ha : SE C κ1 a ma) (hb : SE C κ2 b mb)
    (hw : swappedStores [.Tuple [.Name x px, .Name y py] kt pt] (.Tuple [a, b] k2 pt2) C.X.env = pure (some [x, y])) (h1 : κ1.sto = true) (h2 : κ2.sto = true)
    (hs : swapsWithSole [.Tuple [.Name x px, .Name y py] kt pt] (.Tuple [a, b] k2 pt2) pos.line C.X.env = pure false := by rfl)
    (e1 : starEach [a, b] C.X.env = (false, eval a C.X.env) :: starEach [b] C.X.env := by rfl) (e2 : starEach [b] C.X.env = (false, eval b C.X.env) :: starEach [] C.X.env := by rfl) :
    SS C κ (.Assign [.Tuple [.Name x px, .Name y py] kt pt] (.Tuple [a, b] k2 pt2) pos) (sPar2 κ1 κ2 i j ma mb) :=
  PS.imp (ps_par hc n.nod n.at_ n'.at_ hij hx hy (pa_cons ha (pa_cons hb pa_nil e2) e1) hw hs) fun De σ H ⟨env, W, st, e, R, o⟩ => by
    subst e
    refine ⟨env, W, st, rfl, R, ((OutS.bnd o).out R.ext).imp fun d1 st1 o1 v1 W1 q1 k1 r1 => ⟨env, W1, st1, rfl, R.up q1 k1, ((OutS.bnd o1).out (R.ext.trans q1)).imp fun d2 st2 o2 v2 W2 q2 k2 r2 => ?_⟩⟩
    have R1 := R.putK q1 k1 n.lt h1 r1
    exact ⟨v1, v2, rfl, (show kFl C κ De W (.nx _) st2 from o2) _ W2 (R1.putK q2 k2 n'.lt h2 r2) (q1.trans q2).lat⟩
theorem ss_par3 (hc : C.X.calm = true) (n : Nm C i x) (n' : Nm C j y) (n2 : Nm C l z) (hij : i ≠ j) (hil : i ≠ l) (hjl : j ≠ l) (hx : C.X.env.scope.names.lookup x = some .local) (hy : C.X.env.scope.names.lookup y = some .local) (hz : C.X.env.scope.names.lookup z = some .local) (ha : SE C κ1 a ma) (hb : SE C κ2 b mb) (hd : SE C κ3 c mc)
    (hw : swappedStores [.Tuple [.Name x px, .Name y py, .Name z pz] kt pt] (.Tuple [a, b, c] k2 pt2) C.X.env = pure (some [x, y, z])) (h1 : κ1.sto = true) (h2 : κ2.sto = true) (h3 : κ3.sto = true)
    (hs : swapsWithSole [.Tuple [.Name x px, .Name y py, .Name z pz] kt pt] (.Tuple [a, b, c] k2 pt2) pos.line C.X.env = pure false := by rfl)
    (e1 : starEach [a, b, c] C.X.env = (false, eval a C.X.env) :: starEach [b, c] C.X.env := by rfl) (e2 : starEach [b, c] C.X.env = (false, eval b C.X.env) :: starEach [c] C.X.env := by rfl) (e3 : starEach [c] C.X.env = (false, eval c C.X.env) :: starEach [] C.X.env := by rfl) :
    SS C κ (.Assign [.Tuple [.Name x px, .Name y py, .Name z pz] kt pt] (.Tuple [a, b, c] k2 pt2) pos) (sPar3 κ1 κ2 κ3 i j l ma mb mc) :=
  PS.imp (ps_par3 hc n.nod n.at_ n'.at_ n2.at_ hij hil hjl hx hy hz (pa_cons ha (pa_cons hb (pa_cons hd pa_nil e3) e2) e1) hw hs) fun De σ H ⟨env, W, st, e, R, o⟩ => by
    subst e
    refine ⟨env, W, st, rfl, R, ((OutS.bnd o).out R.ext).imp fun d1 st1 o1 v1 W1 q1 k1 r1 => ⟨env, W1, st1, rfl, R.up q1 k1, ((OutS.bnd o1).out (R.ext.trans q1)).imp fun d2 st2 o2 v2 W2 q2 k2 r2 => ⟨env, W2, st2, rfl, R.up (q1.trans q2) k2, ((OutS.bnd o2).out (R.ext.trans (q1.trans q2))).imp fun d3 st3 o3 v3 W3 q3 k3 r3 => ?_⟩⟩⟩
    have R1 := R.putK q1 k1 n.lt h1 r1
    have R2 := R1.putK q2 k2 n'.lt h2 r2
    exact ⟨v1, v2, v3, rfl, (show kFl C κ De W (.nx _) st3 from o3) _ W3 (R2.putK q3 k3 n2.lt h3 r3) ((q1.trans q2).trans q3).lat⟩
end
end Sm


set_option Elab.async false
set_option linter.all false
set_option maxRecDepth 100000
set_option maxHeartbeats 1000000
/-! Sm17: sets of ints. -/
namespace Sm
open PySem PySem.Spec L2
section
open PyProof.Rows
variable {P : Program} {w : World} {A : Around} {E : Value → Shared → Prop} {s : Shared}
set_option maxHeartbeats 3200000 in
theorem call_set_lstI {l : Addr} {items : Array Value} (ns : List Int) {Q : Value → Shared → Prop} (hh : A.handled = none) (hl : s.heap.IsList l items) (hit : IntsAre items.toList ns) (hb : ns.length + 1 < scanBound)
    (h : ∀ (h' : Heap) (tk c : Nat), SetR w h' s.heap.objs.size (fun j => decide (j ∈ ns)) c → c ≤ ns.length → (∀ b o, s.heap.get? b = some o → h'.get? b = some o) → Q (.ref s.heap.objs.size) { s with heap := h', toks := tk }) :
    wpAny (model P w) A (call (.type "set") [.ref l]) Q E s := by
  have hisz : items.size = ns.length := by
    have q := IntsAre.length hit
    rw [Array.length_toList] at q
    exact q
  obtain ⟨c, tl, hmro⟩ := F.called_set.mro
  have hmade := F.called_set.made
  have hsub := F.called_set.sub
  refine wpAny_call (codeAny_of_tree ?_)
  show wpAny _ _ (callAny (.type "set") _) _ _ _
  refine wpAny_pure ⟨Code.quiet_builtin _ (by decide +kernel), codeAny_builtin F.entry_type_call ?_⟩
  rw [Around.under_plain (weight_type_call_type "set" [.ref l] []) rfl]
  have h1 := F.called_set.notType
  have h2 := F.called_set.canCreate
  have hct := F.typeCall_set_1 (.ref l)
  repeat (any_goals (first | assumption | wp_step))

  refine codeAny_mono (code_set_led1 (.ref l) (E := E) (Q₁ := fun obj s₁ => obj = .ref s.heap.objs.size ∧ s₁ = { s with heap := s.heap.push { cls := .type "set", dict := none, data := .set #[] 0 (.fresh 0 0 (!w.params.followText "set-order")) } }) ⟨rfl, rfl⟩) fun r s₁ hr => ?_
  cases r with
  | error e => exact hr
  | ok fl =>
    cases fl with
    | ret obj =>
      obtain ⟨rfl, rfl⟩ := hr
      have hS : (s.heap.push { cls := .type "set", dict := none, data := .set #[] 0 (.fresh 0 0 (!w.params.followText "set-order")) }).get? s.heap.objs.size = some { cls := .type "set", dict := none, data := .set #[] 0 (.fresh 0 0 (!w.params.followText "set-order")) } := Heap.get?_push_size _ rfl
      have hT : Shared.TypeIs { s with heap := s.heap.push { cls := .type "set", dict := none, data := .set #[] 0 (.fresh 0 0 (!w.params.followText "set-order")) } } (.ref s.heap.objs.size) "set" := ⟨_, hS, rfl⟩
      have hli := F.called_set.init.lookup
      have hbi := F.called_set.init.bind (.ref s.heap.objs.size)
      repeat (any_goals (first | assumption | wp_step))

      refine codeAny_mono (codeAny_call_builtin (R := wants (fun r s₂ => r = .none ∧ ∃ h' tk c, s₂ = { s with heap := h', toks := tk } ∧ SetR w h' s.heap.objs.size (fun j => decide (j ∈ ns)) c ∧ c ≤ ns.length ∧
          (∀ b o, s.heap.get? b = some o → h'.get? b = some o)) E) F.called_set.init.plain F.entry_set_init (check_set_init_1 hT ?_)) fun r₂ s₂ hr₂ => ?_
      · obtain ⟨ol, hol, hcl, nl, hdl⟩ := hl
        obtain ⟨ocls, odict, odata, oslots⟩ := ol
        simp only at hcl hdl
        subst hcl; subst hdl
        have hol' : (s.heap.push { cls := .type "set", dict := none, data := .set #[] 0 (.fresh 0 0 (!w.params.followText "set-order")) }).get? l = some { cls := .type "list", dict := odict, data := .seq items nl, slots := oslots } := Heap.get?_push_of_some _ hol
        have hsls := F.sub_list_set
        have hslf := F.sub_list_frozenset
        have hne : (Value.type "list" == Value.type "dict") = false := by decide
        have hl1 : (s.heap.push { cls := .type "set", dict := none, data := .set #[] 0 (.fresh 0 0 (!w.params.followText "set-order")) }).IsList l items := ⟨_, hol', rfl, nl, rfl⟩
        unfold Builtin.«set.__init__» noKeywords Builtin.Frozenset.updateFrom
        generalize hPI : pyIter = PI
        wp_walk
        subst hPI

        refine wpAny_pyIter_list hl1 ?_
        refine wpAny_bind (wpAny_runValue ?_)
        have hlS : l < s.heap.objs.size := Heap.lt_size hol
        have hh3 : A.in1.in1.in1.handled = none := by simp [hh]
        have hz1 : (s.heap.push { cls := .type "set", dict := none, data := .set #[] 0 (.fresh 0 0 (!w.params.followText "set-order")) }).objs.size = s.heap.objs.size + 1 := Heap.size_push ..
        have hneI : l ≠ (s.heap.push { cls := .type "set", dict := none, data := .set #[] 0 (.fresh 0 0 (!w.params.followText "set-order")) }).objs.size := by
          rw [Heap.size_push]; exact Nat.ne_of_lt (Nat.lt_succ_of_lt hlS)
        have hSf : s.heap.objs.size ∉ [(s.heap.push { cls := .type "set", dict := none, data := .set #[] 0 (.fresh 0 0 (!w.params.followText "set-order")) }).objs.size, l] := by
          rw [Heap.size_push]; simp only [List.mem_cons, List.mem_singleton, List.not_mem_nil, or_false, not_or]
          exact ⟨Nat.ne_of_lt (Nat.lt_succ_self _), Nat.ne_of_gt hlS⟩
        have hval : ∀ (i : Nat) (v : Value), items[i]? = some v → ∃ k t, ns[i]? = some k ∧ v = .int k t := fun i v hv => by
          have hi : i < ns.length := by rw [← hisz]; exact (Array.getElem?_eq_some_iff.mp hv).1
          obtain ⟨t, e⟩ := PyProof.Rows.IntsAre.int_at hit i v (by rw [Array.getElem?_toList]; exact hv)
          refine ⟨ns[i], t, List.getElem?_eq_getElem hi, ?_⟩
          rw [e, List.getD_eq_getElem?_getD, List.getElem?_eq_getElem hi] <;> rfl
        refine set_update_ints ((Walks.list hh3 _ l hneI items).toS) s.heap.objs.size
          hSf ns hisz hb hval (items.size - 0) 0 _ (by omega) (Nat.zero_le _)
          ⟨⟨_, Heap.get?_push_size _ rfl, rfl, rfl⟩, (hl1.push _)⟩ ?hS0 ?hR
        case hS0 =>
          have hget : ((s.heap.push { cls := .type "set", dict := none, data := .set #[] 0 (.fresh 0 0 (!w.params.followText "set-order")) }).push { cls := .type "list_iterator", data := .fields #[.ref l, .int 0 0] }).get? s.heap.objs.size
              = some { cls := .type "set", dict := none, data := .set #[] 0 (.fresh 0 0 (!w.params.followText "set-order")) } := Heap.get?_push_of_some _ hS
          exact ⟨0, Nat.le_refl 0, setR_new_at hget⟩
        case hR =>
          intro s' c' hm hc' hS'
          obtain ⟨h', g2, d', tk', os'⟩ := s'
          have eg : g2 = s.gens := hm.gens
          have ed : d' = s.drawn := hm.drawn
          have eo : os' = s.os := hm.os
          subst eg; subst ed; subst eo
          show wpAny _ _ _ _ _ _
          refine wpAny_pure ?_
          show wpAny _ _ (PySem.ret Value.none) _ _ _
          rw [hisz] at hc'
          refine wpAny_pure ⟨rfl, h', tk', c', rfl, hS', hc', fun b o e => ?_⟩
          have hb0 : b < s.heap.objs.size := Heap.lt_size e
          have hb1 : b ≠ s.heap.objs.size := Nat.ne_of_lt hb0
          have hb2 : b ≠ (s.heap.push { cls := .type "set", dict := none, data := .set #[] 0 (.fresh 0 0 (!w.params.followText "set-order")) }).objs.size := by
            rw [Heap.size_push]; exact Nat.ne_of_lt (Nat.lt_succ_of_lt hb0)
          exact hm.heap b o (by simp only [List.mem_cons, List.mem_singleton, List.not_mem_nil, or_false, not_or]; exact ⟨hb1, hb2⟩) (Heap.get?_push_of_some _ (Heap.get?_push_of_some _ e))

      · cases r₂ with
        | error e => exact hr₂
        | ok fl₂ =>
          cases fl₂ with
          | ret r =>
            obtain ⟨rfl, h', tk, c', rfl, hS', hc', hk'⟩ := hr₂
            repeat (any_goals (first | assumption | wp_step))
            exact h _ _ _ hS' hc' hk'
          | _ => exact hr₂.elim
    | _ => exact hr.elim
end
end Sm


set_option Elab.async false
set_option linter.all false
set_option maxRecDepth 100000
set_option maxHeartbeats 1000000
/-! Sm18: sorted(set(x)), len(set(x)) of ints. -/
namespace Sm
open PySem PySem.Spec L2
/-- what is met first, each once -/
def dedI (ns : List Int) : List Int := ns.foldl (fun a n => if n ∈ a then a else a ++ [n]) []
theorem dedI_fold : ∀ (ns acc : List Int), acc.Nodup → (ns.foldl (fun a n => if n ∈ a then a else a ++ [n]) acc).Nodup ∧ ∀ k, k ∈ ns.foldl (fun a n => if n ∈ a then a else a ++ [n]) acc ↔ k ∈ acc ∨ k ∈ ns
  | [], acc, h => ⟨h, fun k => by simp⟩
  | n :: ns, acc, h => by
    rw [List.foldl_cons]
    by_cases q : n ∈ acc
    · rw [if_pos q]
      obtain ⟨h1, h2⟩ := dedI_fold ns acc h
      refine ⟨h1, fun k => (h2 k).trans ?_⟩
      rw [List.mem_cons]
      exact ⟨fun z => z.elim .inl fun z => .inr (.inr z), fun z => z.elim .inl fun z => z.elim (fun z => .inl (z ▸ q)) .inr⟩
    · rw [if_neg q]
      obtain ⟨h1, h2⟩ := dedI_fold ns (acc ++ [n]) (by
        refine List.nodup_append.mpr ⟨h, by simp, fun a ha b hb => ?_⟩
        rw [List.mem_singleton.mp hb]
        exact fun z => q (z ▸ ha))
      refine ⟨h1, fun k => (h2 k).trans ?_⟩
      rw [List.mem_append, List.mem_singleton, List.mem_cons, or_assoc]
theorem dedI_nodup (ns : List Int) : (dedI ns).Nodup := (dedI_fold ns [] List.nodup_nil).1
theorem dedI_mem (ns : List Int) (k : Int) : k ∈ dedI ns ↔ k ∈ ns := ((dedI_fold ns [] List.nodup_nil).2 k).trans (by simp)
def srtI (ns : List Int) : List Int := ns.mergeSort fun a b => decide (a ≤ b)
theorem srtI_perm (ns : List Int) : (srtI ns).Perm ns := List.mergeSort_perm _ _
theorem srtI_pw (ns : List Int) : (srtI ns).Pairwise (· ≤ ·) := by
  have := List.pairwise_mergeSort (le := fun a b : Int => decide (a ≤ b)) (fun a b c h1 h2 => by simp at h1 h2 ⊢; omega) (fun a b => by simp; omega) ns
  exact this.imp fun h => by simpa using h
/-- the ascending list of those in ns -/
def setL (ns : List Int) : List Int := srtI (dedI ns)
theorem setL_mem (ns : List Int) (k : Int) : k ∈ setL ns ↔ k ∈ ns := ((srtI_perm _).mem_iff).trans (dedI_mem ns k)
theorem setL_nodup (ns : List Int) : (setL ns).Nodup := (srtI_perm _).nodup_iff.mpr (dedI_nodup ns)
theorem setL_pw (ns : List Int) : (setL ns).Pairwise (· < ·) := lt_of_le_nodup _ (srtI_pw _) (setL_nodup ns)
theorem pw_ext : ∀ {a b : List Int}, a.Pairwise (· < ·) → b.Pairwise (· < ·) → (∀ k, k ∈ a ↔ k ∈ b) → a = b
  | [], [], _, _, _ => rfl
  | [], y :: b, _, _, h => absurd ((h y).mpr List.mem_cons_self) (by simp)
  | x :: a, [], _, _, h => absurd ((h x).mp List.mem_cons_self) (by simp)
  | x :: a, y :: b, h1, h2, h => by
    obtain ⟨p1, p2⟩ := List.pairwise_cons.mp h1
    obtain ⟨q1, q2⟩ := List.pairwise_cons.mp h2
    have e : x = y := by
      rcases List.mem_cons.mp ((h x).mp List.mem_cons_self) with z | z
      · exact z
      · rcases List.mem_cons.mp ((h y).mpr List.mem_cons_self) with z' | z'
        · exact z'.symm
        · have := q1 x z
          have := p1 y z'
          omega
    subst e
    rw [pw_ext p2 q2 fun k => ⟨fun hk => ?_, fun hk => ?_⟩]
    · rcases List.mem_cons.mp ((h k).mp (List.mem_cons_of_mem _ hk)) with z | z
      · have := p1 k hk; omega
      · exact z
    · rcases List.mem_cons.mp ((h k).mpr (List.mem_cons_of_mem _ hk)) with z | z
      · have := q1 k hk; omega
      · exact z
theorem dedI_le : ∀ (ns acc : List Int), (ns.foldl (fun a n => if n ∈ a then a else a ++ [n]) acc).length ≤ acc.length + ns.length
  | [], acc => Nat.le_refl _
  | n :: ns, acc => by
    rw [List.foldl_cons]
    refine Nat.le_trans (dedI_le ns _) ?_
    by_cases q : n ∈ acc
    · rw [if_pos q, List.length_cons]; omega
    · rw [if_neg q, List.length_append, List.length_cons, List.length_cons, List.length_nil]; omega
theorem setL_le (ns : List Int) : (setL ns).length ≤ ns.length := by
  rw [show (setL ns).length = (dedI ns).length from (srtI_perm _).length_eq]
  have := dedI_le ns []
  rw [List.length_nil, Nat.zero_add] at this
  exact this
theorem setL_eq {ns ms : List Int} (h : ms.Pairwise (· < ·)) (e : ∀ k, k ∈ ms ↔ k ∈ ns) : setL ns = ms := pw_ext (setL_pw ns) h fun k => (setL_mem ns k).trans (e k).symm
section
open PyProof.Rows
variable {P : Program} {w : World} {A : Around} {E : Value → Shared → Prop} {s : Shared} {a : Addr}
theorem each_ints {h : Heap} : ∀ {vs : List Value} {ns : List Int}, IntsAre vs ns → PySem.W.EachIs (fun v (k : Int) => ∃ as, Reads h v (PyData.int k) as) vs ns
  | _, _, .nil => .nil
  | _, _, .cons n t r => .cons ⟨[], .int _ _⟩ (each_ints r)
theorem each_intsA : ∀ {vs : List Value} {ns : List Int}, PySem.W.EachIs (fun v (k : Int) => ∃ t, v = Value.int k t) vs ns → IntsAre vs ns
  | _, _, .nil => .nil
  | _, _, .cons ⟨t, e⟩ r => by rw [e]; exact .cons _ t (each_intsA r)
theorem each_intsB : ∀ {vs : List Value} {ns : List Int}, IntsAre vs ns → PySem.W.EachIs (fun v (k : Int) => ∃ t, v = Value.int k t) vs ns
  | _, _, .nil => .nil
  | _, _, .cons n t r => .cons ⟨t, rfl⟩ (each_intsB r)
/-- sorted of a set of ints -/
theorem sorted_setA {S : Int → Bool} {n : Nat} {Q : Value → Shared → Prop} (R : SetR w s.heap a S n) (hh : A.handled = none) (hu : A.units + 8 < cLine)
    (hQ : ∀ s' p (out : Array Value) (c : Nat) (ns : List Int), (∀ b o, s.heap.get? b = some o → s'.heap.get? b = some o) → s'.gens = s.gens → s'.os = s.os → s.heap.objs.size ≤ p →
      s'.heap.get? p = some (seqObj "list" out c) → IntsAre out.toList ns → ns.Pairwise (· < ·) → (∀ k, k ∈ ns ↔ S k = true) → ns.length = n → Q (.ref p) s') :
    wpAny (model P w) A (call (.builtin "sorted") [.ref a]) Q E s := by
  obtain ⟨o, es, ep, t, ho, hex, hd, g, nd, hm, hb, hf, hn, hr, hl⟩ := R
  refine Calls.call_function_entry kind_sorted plain_sorted entry_sorted (args_sorted1 _) ?_
  unfold Builtin.«sorted»
  refine wpAny_bind (m := checkCount "sorted" 1 1 _) (wpAny_pure ?_)
  refine wpAny_bind (collect_set (A := A.in1) hh ⟨o, ho, hex.1, hd⟩ hf hb hr hl fun s1 vs k1 hz g1 o1 pm => ?_)
  have hvl : vs.length = n := by rw [pm.length_eq, List.length_map, Array.length_toList]; exact hn
  have hI : IntsAre vs (vs.map Builtin.Re.reRawOf) := ints_of vs fun v hv => by
    obtain ⟨e, he, q⟩ := List.mem_map.mp (pm.mem_iff.mp hv)
    obtain ⟨k, tk, h1, _⟩ := g e he
    exact ⟨k, tk, by rw [← q]; exact h1⟩
  have pk : (vs.map Builtin.Re.reRawOf).Perm (es.toList.map keyOf) := by
    have q := pm.map Builtin.Re.reRawOf
    rw [List.map_map] at q
    exact q
  have hbs : es.size < 4096 := hb
  have hsz : vs.length ≤ sizeLine := by rw [hvl, sizeLine_eq]; omega
  have hlI : (vs.map Builtin.Re.reRawOf).length = vs.length := List.length_map ..
  generalize vs.map Builtin.Re.reRawOf = ks at hI pk hlI
  refine wpAny_bind (wpAny_newList ?_ hsz)
  have hoL : (s1.heap.push (seqObj "list" vs.toArray 0)).get? s1.heap.objs.size = some (seqObj "list" vs.toArray 0) := Heap.get?_push_size _ rfl
  have hal : PySem.W.AllAlike (ks.map PyData.int) := PySem.W.AllAlike.of fun b b' => by simp [PySem.W.alike]
  have hso : PySem.W.Sortable (ks.map PyData.int) := PySem.W.Sortable.others fun b => ⟨by simp, by simp⟩
  have hout := PySem.W.sortVals_data (h' := PySem.W.sortingHeap (s1.heap.push (seqObj "list" vs.toArray 0)) s1.heap.objs.size vs) (enc := PyData.int) false (each_intsB hI) (each_ints hI) hal
  have hlo : (PySem.W.sortVals (PySem.W.dataKind (PySem.W.sortingHeap (s1.heap.push (seqObj "list" vs.toArray 0)) s1.heap.objs.size vs) (ks.map PyData.int)) false vs vs).length = vs.length := PySem.W.sortVals_length false rfl
  generalize ho' : PySem.W.sortVals (PySem.W.dataKind (PySem.W.sortingHeap (s1.heap.push (seqObj "list" vs.toArray 0)) s1.heap.objs.size vs) (ks.map PyData.int)) false vs vs = out at hout hlo
  refine wpAny_bind (wpAny_holding (wpAny_call_entry slot_list_sort ⟨_, hoL, rfl⟩ entry_list_sort (PySem.W.list_sort_vals (s := { s1 with heap := s1.heap.push (seqObj "list" vs.toArray 0) }) (κ := PySem.W.dataKind (PySem.W.sortingHeap (s1.heap.push (seqObj "list" vs.toArray 0)) s1.heap.objs.size vs) (ks.map PyData.int)) hoL
    (PySem.W.SortsAt.data (s := { s1 with heap := PySem.W.sortingHeap (s1.heap.push (seqObj "list" vs.toArray 0)) s1.heap.objs.size vs }) (PySem.W.each_map (R := fun v d => ∃ as, Reads (PySem.W.sortingHeap (s1.heap.push (seqObj "list" vs.toArray 0)) s1.heap.objs.size vs) v d as) PyData.int (each_ints hI)) hal hso (PySem.W.bound_map fun b _ => by
      show A.in1.in1.units + (PyData.int b).depth < cLine
      simp only [PyData.depth]
      show A.units + 2 + 0 < cLine
      omega)) hsz ⟨_, rfl, ?_⟩) (args_list_sort _)))
  rw [ho']
  obtain ⟨c, hc⟩ := sortedHeap_at (vs := vs) (out := out.toArray) hoL
  have e2 : ks.mergeSort (PySem.W.dataLe false PyData.int) = srtI ks := by
    unfold srtI
    congr 1
    exact PySem.W.dataLe_int (fun k : Int => k)
  rw [e2] at hout
  have pn : (srtI ks).Perm (es.toList.map keyOf) := (srtI_perm ks).trans pk
  refine wpAny_pure ⟨_, rfl, hQ _ s1.heap.objs.size out.toArray c (srtI ks) (fun b u e => ?_) g1 o1 hz hc (by simpa using each_intsA hout) (lt_of_le_nodup _ (srtI_pw ks) (pn.nodup_iff.mpr nd)) (fun k => by rw [pn.mem_iff, ← hm k]) ?_⟩
  · have q := k1 b u e
    have hlt := Heap.lt_size q
    show (sortedHeap (s1.heap.push (seqObj "list" vs.toArray 0)) s1.heap.objs.size vs out.toArray).get? b = some u
    rw [sortedHeap_old (Nat.ne_of_lt hlt) (by rw [size_push']; exact Nat.lt_succ_of_lt hlt)]
    exact Heap.get?_push_of_some _ q
  · rw [pn.length_eq, List.length_map, Array.length_toList]; exact hn
end

def setSD (d : D) : Option D := (lotD d).bind fun p => if p.2.length ≤ 4000 then (intsD p.2).map fun ns => .lst ((setL ns).map .int) else none
def setND (d : D) : Option D := (lotD d).bind fun p => if p.2.length ≤ 4000 then (intsD p.2).map fun ns => .int (setL ns).length else none
def eSrtSet (m : Ex) : Ex := fun env => bnd (m env) fun d => lift (setSD d)
def eLenSet (m : Ex) : Ex := fun env => bnd (m env) fun d => lift (setND d)
section
variable {C : Cn} {κ : Kd} {a : Expr} {ma : Ex} {p p2 q pos : Pos}
theorem setL_len {ns ms : List Int} (h : ms.Pairwise (· < ·)) (e : ∀ k, k ∈ ms ↔ k ∈ ns) : ms = setL ns := (setL_eq h e).symm
theorem set_made (hc : C.X.calm = true) {pins : List (Addr × Obj)} {s : Shared} {σ : L2.St} {W : Wd} {st : Store} {d : D} {v : V} {u : Value} {lst : Bool} {ds : List D} {ns : List Int} {Q : Value → Shared → Prop} (I : Inv C.X pins σ W.H s) (k : C.ok W st) (b : Bor C.X.K C.X.mg W d v) (ru : RelV v u)
    (hl : lotD d = some (lst, ds)) (hz : ds.length ≤ 4000) (hi : intsD ds = some ns)
    (h : ∀ (h' : Heap) (tk : Nat) (c : Nat), SetR C.X.w h' s.heap.objs.size (fun j => decide (j ∈ ns)) c → (∀ b o, s.heap.get? b = some o → h'.get? b = some o) → Inv C.X pins σ W.H { s with heap := h', toks := tk } → Q (.ref s.heap.objs.size) { s with heap := h', toks := tk }) :
    wpAny (model C.X.prog C.X.w) C.X.A (call (.type "set") [u]) Q C.X.xe s := by
  obtain ⟨a, vs, its, ev, eu, hq, _, rv, l, _⟩ := lot_vals I k b ru hl
  rw [intsD_map hi] at l
  have evs := RpL.ints (ds := []) l
  subst evs eu
  have hia : PyProof.Rows.IntsAre its ns := rv.ints
  have hln : ns.length = ds.length := by rw [intsD_map hi, List.length_map]
  have hb : ns.length + 1 < scanBound := by show _ < 4096; omega
  cases lst with
  | true =>
    rw [if_pos rfl] at hq
    exact call_set_lstI ns (I.ok.hd hc) hq hia hb fun h' tk c R _ hk => h h' tk c R hk (I.kept hk)
  | false =>
    rw [if_neg Bool.false_ne_true] at hq
    exact call_set_tupI ns (I.ok.hd hc) hq hia hb fun h' tk c R _ hk => h h' tk c R hk (I.kept hk)
open PyProof.Rows in
theorem se_srtSet (hc : C.X.calm = true) (hu : C.X.A.units + 64 < cLine) (hg : Gl C.X "sorted") (hm : C.X.mg "sorted" = none) (hg2 : Gl C.X "set") (hm2 : C.X.mg "set" = none) (ha : SE C κ a ma)
    (na : starEach [a] C.X.env = (false, eval a C.X.env) :: starEach [] C.X.env := by rfl) : SE C .fresh (.Call (.Name "sorted" p) [.Call (.Name "set" p2) [a] [] q] [] pos) (eSrtSet ma) :=
  SE.mk fun pins s σ env W st Q I R o => by
    refine Call_ (ld_blt I hg hm boot_sorted (PyProof.Rows.callWith_builtin1 (PyProof.Rows.args_cons ?_ rfl) rfl rfl))
    refine Call_ (ld_blt I hg2 hm2 boot_set ?_)
    refine PyProof.Rows.callWith_type1 (PyProof.Rows.args_cons (ha.go I R ((Out.bnd o).imp fun d st1 o1 v u s1 W1 e1 k1 r1 I1 ru => PyProof.Rows.args_nil ?_)) na) na rfl
    obtain ⟨dd, hd, o2⟩ := out_lift o1
    unfold setSD at hd
    cases ql : lotD d with
    | none => rw [ql] at hd; cases hd
    | some pr =>
      obtain ⟨lst, ds⟩ := pr
      rw [ql] at hd
      have hd : (if ds.length ≤ 4000 then (intsD ds).map (fun ns => D.lst ((setL ns).map .int)) else none) = some dd := hd
      by_cases hz : ds.length ≤ 4000
      · rw [if_pos hz] at hd
        cases q2 : intsD ds with
        | none => rw [q2] at hd; cases hd
        | some ns =>
          rw [q2] at hd
          cases hd
          refine set_made hc I1 k1 r1.bor ru ql hz q2 fun h' tk c R' hk I2 => PyProof.Rows.args_nil ?_
          refine sorted_setA R' (I2.ok.hd hc) (by omega) fun s' p' out c' ms kk g1 o1 hp hg' hi pw mem hn => ?_
          have em : ms = setL ns := setL_len pw fun k => (mem k).trans (by simp)
          have np : W1.H p' = none := I2.hok.fresh hp
          have hlen : ((setL ns).map V.int).length ≤ sizeLine := by
            have h1 : (setL ns).length ≤ 4000 := by
              refine Nat.le_trans ?_ hz
              have e1 : ds.length = ns.length := by rw [intsD_map q2, List.length_map]
              rw [e1]
              exact setL_le ns
            rw [List.length_map, sizeLine_eq]; omega
          have vo : Vals ((setL ns).map V.int) out.toList := by rw [← em]; exact vals_of_ints hi
          have J : Inv C.X pins σ (upd W1.H p' (.lst ((setL ns).map V.int))) { ({ s1 with heap := h', toks := tk } : Shared) with heap := s'.heap, gens := s'.gens, drawn := s'.drawn, toks := s'.toks } :=
            I2.call (ch := []) (Un.laid kk hp np) (I2.hok.laid kk hp ⟨hlen, out.toList, c', vo, hg'⟩) (by rw [g1]; exact I2.bare) (fun _ z => nomatch z)
          have e : s' = { ({ s1 with heap := h', toks := tk } : Shared) with heap := s'.heap, gens := s'.gens, drawn := s'.drawn, toks := s'.toks } := by
            cases s'
            cases s1
            cases o1
            rfl
          rw [e]
          exact ⟨.ref p', _, J, rfl, o2 _ (W1.new p' (.lst ((setL ns).map V.int))) (e1.trans (new_ext np)) (new_ok k1 np) (RK.down (κ := .fresh) e1 (new_lst k1 np (rpl_ints _)))⟩
      · rw [if_neg hz] at hd; cases hd
open PyProof.Rows in
theorem se_lenSet (hc : C.X.calm = true) (hg : Gl C.X "len") (hm : C.X.mg "len" = none) (hg2 : Gl C.X "set") (hm2 : C.X.mg "set" = none) (ha : SE C κ a ma)
    (na : starEach [a] C.X.env = (false, eval a C.X.env) :: starEach [] C.X.env := by rfl) : SE C .froz (.Call (.Name "len" p) [.Call (.Name "set" p2) [a] [] q] [] pos) (eLenSet ma) :=
  SE.mk fun pins s σ env W st Q I R o => by
    refine Call_ (ld_blt I hg hm boot_len (PyProof.Rows.callWith_builtin1 (PyProof.Rows.args_cons ?_ rfl) rfl rfl))
    refine Call_ (ld_blt I hg2 hm2 boot_set ?_)
    refine PyProof.Rows.callWith_type1 (PyProof.Rows.args_cons (ha.go I R ((Out.bnd o).imp fun d st1 o1 v u s1 W1 e1 k1 r1 I1 ru => PyProof.Rows.args_nil ?_)) na) na rfl
    obtain ⟨dd, hd, o2⟩ := out_lift o1
    unfold setND at hd
    cases ql : lotD d with
    | none => rw [ql] at hd; cases hd
    | some pr =>
      obtain ⟨lst, ds⟩ := pr
      rw [ql] at hd
      have hd : (if ds.length ≤ 4000 then (intsD ds).map (fun ns => D.int (setL ns).length) else none) = some dd := hd
      by_cases hz : ds.length ≤ 4000
      · rw [if_pos hz] at hd
        cases q2 : intsD ds with
        | none => rw [q2] at hd; cases hd
        | some ns =>
          rw [q2] at hd
          cases hd
          refine set_made hc I1 k1 r1.bor ru ql hz q2 fun h' tk c R' hk I2 => PyProof.Rows.args_nil ?_
          obtain ⟨o', es, ep, t, ho, hex, hd', _, nd, mem, _, hf, hn, _, _⟩ := R'
          have hlen : es.size = (setL ns).length := by
            have h1 : (es.toList.map keyOf).Perm (setL ns) := (List.perm_ext_iff_of_nodup nd (setL_nodup ns)).mpr fun k => by rw [← mem k, setL_mem]; simp
            have := h1.length_eq
            rwa [List.length_map, Array.length_toList] at this
          have hle : (setL ns).length ≤ 4000 := by
            refine Nat.le_trans (setL_le ns) ?_
            have e1 : ds.length = ns.length := by rw [intsD_map q2, List.length_map]
            omega
          refine call_len_set ho hex hd' hf (by omega) ?_
          rw [hlen]
          exact EP.int (κ := .froz) (I2.tok _) k1 fun z W' e' k' r' => o2 z W' (e1.trans e') k' r'
      · rw [if_neg hz] at hd; cases hd
end
end Sm


set_option Elab.async false
set_option linter.all false
set_option maxRecDepth 100000
set_option maxHeartbeats 1000000
/-! Sm19: x.index(y) where it is found; {}. -/
namespace Sm
open PySem PySem.Spec L2
def kIndex : D → Option (String × String)
  | .lst _ => some ("list", "list.index")
  | .tup _ => some ("tuple", "tuple.index")
  | _ => none
/-- where y stands first -/
def placeD (ds : List D) (x : D) : Nat := (ds.map fun y => D.eqv y x).idxOf true
def indexD (d x : D) : Option D := (lotD d).bind fun p => if (shpL 60 p.2 && shp 60 x && p.2.any fun y => D.eqv y x) = true then some (.int (placeD p.2 x : Nat)) else none
theorem readsAll_nth {h : Heap} : ∀ {us : List Value} {ds : List D} {l : List Addr}, ReadsAll h us (pyL ds) l → ∀ (j : Nat) (h1 : j < us.length) (h2 : j < ds.length), ∃ bs, Reads h us[j] ds[j].py bs
  | _, [], _, _, j, _, h2 => absurd h2 (Nat.not_lt_zero _)
  | _, d :: ds, _, r, j, h1, h2 => by
    have r' : ReadsAll h _ (d.py :: pyL ds) _ := r
    cases r' with
    | cons a b =>
      cases j with
      | zero => exact ⟨_, a⟩
      | succ j => exact readsAll_nth b j (Nat.lt_of_succ_lt_succ h1) (Nat.lt_of_succ_lt_succ h2)
section
variable {C : Cn}
theorem items_eqv {s : Shared} {A : Around} {its : List Value} {ds : List D} {l l2 : List Addr} {x : D} {u : Value} (rr : ReadsAll s.heap its (pyL ds) l) (r : Reads s.heap u x.py l2) (h1 : shpL 60 ds = true) (h2 : shp 60 x = true) (hu : A.units + 62 < cLine) :
    SeqAt.ItemsEq A s its (ds.map fun y => D.eqv y x) u true := by
  have hlen : its.length = ds.length := by
    have := SeqAt.ReadsAll.length _ _ _ rr
    rw [pyL_len] at this
    exact this
  refine ⟨by rw [List.length_map]; exact hlen, fun j g1 g2 => ?_⟩
  rw [List.length_map] at g2
  obtain ⟨bs, rj⟩ := readsAll_nth rr j g1 g2
  have hs : shp 60 ds[j] = true := shp_mem h1 (List.getElem_mem g2)
  have q := SeqAt.eqAt_plain ds[j].py x.py A s its[j] u bs l2 rj r (plain_of_shp _ _ hs) (plain_of_shp _ _ h2) (by have := dep60 h2; omega)
  have e : decide ((ds.map fun y => D.eqv y x)[j]'(by rw [List.length_map]; exact g2) = true) = PyData.eqv ds[j].py x.py := by
    rw [List.getElem_map, Bool.eq_iff_iff, decide_eq_true_eq]
    exact Iff.rfl
  rw [e]
  exact q
theorem se_index {κr : Kd} {o e : Expr} {mo : Ex} {ml : Lx} {apos cpos : Pos} (hs : Sysm C.X.K) (hu : C.X.A.units + 64 < cLine)
    (ho : SE C κr o mo) (ha : SB C [e] ml) (hbase : attributeBase o "index" C.X.env (eval o C.X.env) = eval o C.X.env := by rfl)
    (hfew : ((backTo cpos (starEach [e] C.X.env)).all (fun x => !x.1) && (backToKw cpos (keywordEach [] C.X.env)).all (fun x => x.1.isSome)
      && decide ([e].length + ([] : List Keyword).length + (if ([] : List Keyword).isEmpty then 0 else 1) < 30)) = true := by rfl)
    (hline : (apos.endLine == cpos.line) = true := by rfl) (hss : starEach [e] C.X.env = (false, eval e C.X.env) :: starEach [] C.X.env := by rfl) (hplain : (backTo cpos (starEach [] C.X.env)).any (·.1) = false := by rfl) :
    SE C .froz (.Call (.Attribute o "index" apos) [e] [] cpos) (eMt kIndex (fun d => g1 fun x => lift (indexD d x)) mo ml) := by
  refine se_mt (fun d T id h => ?_) (fun pins s σ W st d v u ds vs us Q T id hk I k b ru bl rv oo => ?_) ho ha hbase hfew hline hss hplain
  · cases d with
    | lst xs => cases h; exact ⟨F.plainAttrs_list, F.slot_list_index, F.type_list_index, rfl⟩
    | tup xs => cases h; exact ⟨F.plainAttrs_tuple, F.slot_tuple_index, F.type_tuple_index, rfl⟩
    | _ => cases h
  · refine mt1 (g := fun d x => lift (indexD d x)) (d := d) bl rv oo fun d2 v2 u2 b2 ru2 o2 => ?_
    obtain ⟨dd, hd, o3⟩ := out_lift o2
    unfold indexD at hd
    cases q : lotD d with
    | none => rw [q] at hd; cases hd
    | some p =>
      obtain ⟨lst, xs⟩ := p
      rw [q] at hd
      have hd : (if (shpL 60 xs && shp 60 d2 && xs.any fun y => D.eqv y d2) = true then some (D.int (placeD xs d2 : Nat)) else none) = some dd := hd
      by_cases z : (shpL 60 xs && shp 60 d2 && xs.any fun y => D.eqv y d2) = true
      · rw [if_pos z] at hd
        cases hd
        obtain ⟨z', z3⟩ := and2 z
        obtain ⟨z1, z2⟩ := and2 z'
        obtain ⟨a, vs, its, l', eu, hl, rvs, rr, l, hz⟩ := (lot_reads (n := 60) I hs k b ru q (datL_of_shp _ _ z1)).ex
        obtain ⟨l2, r2, _⟩ := b2.reads I hs k ru2 (dat_of_shp _ _ z2)
        subst eu
        have hin : true ∈ xs.map fun y => D.eqv y d2 := by
          obtain ⟨y, hy, e⟩ := List.any_eq_true.mp z3
          exact List.mem_map.mpr ⟨y, hy, e⟩
        have it := items_eqv (A := C.X.A.in1) rr r2 z1 z2 (by show C.X.A.units + 1 + 62 < cLine; omega)
        have hlen : (xs.map fun y => D.eqv y d2).length ≤ sizeLine := by rw [List.length_map, l.len]; exact hz
        cases d with
        | lst ys =>
          cases q
          cases hk
          rw [if_pos rfl] at hl
          exact SeqAt.call_list_index hl it hlen hin (EP.int (κ := .froz) (I.tok _) k o3)
        | tup ys =>
          cases q
          cases hk
          rw [if_neg Bool.false_ne_true] at hl
          exact SeqAt.call_tuple_index hl it hin (EP.int (κ := .froz) (I.tok _) k o3)
        | _ => cases hk
      · rw [if_neg z] at hd; cases hd
/-- {} -/
theorem se_dct0 {pos : Pos} : SE C .fresh (.Dict [] [] pos) (eC (.dct [])) :=
  PE.imp pe_dnewK fun σ H Q ⟨env, W, st, e, R, o⟩ => by
    subst e
    intro p np
    exact (show KEnd C .fresh W Q (.dct []) st from o) (.ref p) (W.new p (.dK [])) (new_ext np) (new_ok R.ok np) ⟨p, rfl, nn_of np, new_g (o := .dK []) R.ok np, new_as (o := .dK []) R.ok np, .inl ⟨[], upd_same, by simp [RpK]⟩⟩
end
end Sm


set_option Elab.async false
set_option linter.all false
set_option maxRecDepth 100000
set_option maxHeartbeats 1000000
/-! Sm20: a, b, c = x, y, z where a name is a cell: by way of a tuple; fresh ones stay fresh. -/
namespace Sm
open PySem PySem.Spec L2
section
variable {C : Cn} {κ κ1 κ2 κ3 : Kd} {i j l : Nat} {x y z : Str} {a b c : Expr} {ma mb mc : Ex} {px py pz pt pos : Pos} {kt k2 : _} {pt2 : _}
theorem newT_sq {K : PySem.W.Frag} {mg : Str → Option Value} {W : Wd} {st : Store} {p : Addr} {o : Obj} {xs : List V} (k : W.Ok K mg st) (n : W.H p = none) : SqT K (W.newT p o xs).H p xs := by
  have e : (W.newT p o xs).G p = some (.frz o (.tup xs)) := by
    show (if p = p then upd W.H p (.frz o (.tup xs)) p else W.G p) = _
    rw [if_pos rfl]; exact upd_same
  exact SqT.up (newT_ok k n).sub (.inl (.inr ⟨o, e⟩))
theorem ss_par3c (hc : C.X.calm = true) (n : Nm C i x) (n' : Nm C j y) (n2 : Nm C l z) (ha : SE C κ1 a ma) (hb : SE C κ2 b mb) (hd : SE C κ3 c mc)
    (hw : swappedStores [.Tuple [.Name x px, .Name y py, .Name z pz] kt pt] (.Tuple [a, b, c] k2 pt2) C.X.env = pure none) (h1 : κ1.sto = true) (h2 : κ2.sto = true) (h3 : κ3.sto = true)
    (hs : swapsWithSole [.Tuple [.Name x px, .Name y py, .Name z pz] kt pt] (.Tuple [a, b, c] k2 pt2) pos.line C.X.env = pure false := by rfl)
    (e1 : starEach [a, b, c] C.X.env = (false, eval a C.X.env) :: starEach [b, c] C.X.env := by rfl) (e2 : starEach [b, c] C.X.env = (false, eval b C.X.env) :: starEach [c] C.X.env := by rfl) (e3 : starEach [c] C.X.env = (false, eval c C.X.env) :: starEach [] C.X.env := by rfl)
    (s1 : (assignEach (.Name x px :: [.Name y py, .Name z pz]) C.X.env).map (·.2) = assign (.Name x px) C.X.env :: (assignEach [.Name y py, .Name z pz] C.X.env).map (·.2) := by rfl)
    (s2 : (assignEach (.Name y py :: [.Name z pz]) C.X.env).map (·.2) = assign (.Name y py) C.X.env :: (assignEach [.Name z pz] C.X.env).map (·.2) := by rfl)
    (s3 : (assignEach (.Name z pz :: []) C.X.env).map (·.2) = assign (.Name z pz) C.X.env :: (assignEach [] C.X.env).map (·.2) := by rfl)
    (hn : (assignEach [.Name x px, .Name y py, .Name z pz] C.X.env).length = 3 := by rfl) (hst : (assignEach [.Name x px, .Name y py, .Name z pz] C.X.env).findIdx? (·.1) = none := by rfl)
    (h0 : (assignEach [.Tuple [.Name x px, .Name y py, .Name z pz] kt pt] C.X.env).map (·.2) = [assign (.Tuple [.Name x px, .Name y py, .Name z pz] kt pt) C.X.env] := by rfl) :
    SS C κ (.Assign [.Tuple [.Name x px, .Name y py, .Name z pz] kt pt] (.Tuple [a, b, c] k2 pt2) pos) (sPar3 κ1 κ2 κ3 i j l ma mb mc) :=
  PS.imp (ps_asg (pe_tupF (pa_cons ha (pa_cons hb (pa_cons hd pa_nil e3) e2) e1)) (pg_tup hc (pgs_cons (pg_name n.nod n.at_ n.loc n.fn) (pgs_cons (pg_name n'.nod n'.at_ n'.loc n'.fn) (pgs_cons (pg_name n2.nod n2.at_ n2.loc n2.fn) pgs_nil s3) s2) s1) hn hst) hs hw h0) fun De σ H ⟨env, W, st, e, R, o⟩ => by
    subst e
    refine ⟨env, W, st, rfl, R, ((OutS.bnd o).out R.ext).imp fun d1 st1 o1 v1 W1 q1 k1 r1 => ⟨env, W1, st1, rfl, R.up q1 k1, ((OutS.bnd o1).out (R.ext.trans q1)).imp fun d2 st2 o2 v2 W2 q2 k2 r2 => ⟨env, W2, st2, rfl, R.up (q1.trans q2) k2, ((OutS.bnd o2).out (R.ext.trans (q1.trans q2))).imp fun d3 st3 o3 v3 W3 q3 k3 r3 => ?_⟩⟩⟩
    have R1 := R.putK q1 k1 n.lt h1 r1
    have R2 := R1.putK q2 k2 n'.lt h2 r2
    have R3 := R2.putK q3 k3 n2.lt h3 r3
    refine ⟨(by decide : (3 : Nat) ≤ sizeLine), fun p ob np no => ?_⟩
    exact ⟨p, _, rfl, newT_sq k3 np, rfl, v1, _, rfl, v2, _, rfl, v3, _, rfl, rfl, (show kFl C κ De W (.nx _) st3 from o3) _ (W3.newT p ob _) (R3.up (newT_ext k3 np) (newT_ok k3 np)) (((q1.trans q2).trans q3).trans (newT_ext k3 np)).lat⟩
end
end Sm


set_option Elab.async false
set_option linter.all false
set_option maxRecDepth 100000
set_option maxHeartbeats 1000000
/-! Sm21: {..} == (..) -/
namespace PySem.SeqAt
open AutoSeq1 (wpAny_loadPart')
open MeetsSeq
theorem tuple_eq_declines_dict (l b : Addr) (items : Array Value) (es) (n n2 : Nat) (dd dd2 : Option Addr) (sl sl2 : Array (Option Value)) :
    Meets (Builtin.«tuple.__eq__» ⟨[.ref l, .ref b], []⟩) (fun _ R s => s.heap.get? l = some { cls := .type "tuple", dict := dd, data := .seq items n, slots := sl } ∧ s.heap.get? b = some { cls := .type "dict", dict := dd2, data := .dict es n2, slots := sl2 } ∧ R (.ok (.ret .notImplemented)) s) :=
  .of_wp fun prog w A R s h => by obtain ⟨hp, g, d, tk, os⟩ := s; obtain ⟨hl, hb, h⟩ := h; have f1 := F.sub_dict_tuple; wp_walk using wpAny_loadPart' hl, wpAny_loadPart' hb; exact ⟨_, rfl, h⟩
end PySem.SeqAt
namespace Sm
open PySem PySem.Spec L2
theorem dict_eq_no {prog : Program} {w : World} {A : Around} {E : Value → Shared → Prop} {s : Shared} {Q : Value → Shared → Prop} {l b : Addr} (tl : s.TypeIs (.ref l) "dict") (tb : s.TypeIs (.ref b) "tuple") (h : Q .notImplemented s) :
    wpAny (model prog w) A (call (.builtin "dict.__eq__") [.ref l, .ref b]) Q E s := by
  refine wpAny_call_entry PySem.F.slot_dict_eq tl PySem.F.entry_dict_eq ?_ (PySem.F.args_dict_eq_2 _ _)
  show wpAny _ _ (Builtin.Dict.dictSlotArgs "__eq__" ⟨[.ref l, .ref b], []⟩ >>= _) _ _ s
  refine wpAny_bind ?_
  unfold Builtin.Dict.dictSlotArgs
  refine wpAny_bind (wpAny_notOrdered_dict tl ?_)
  show wpAny _ _ (pure (Value.ref l, Value.ref b)) _ _ s
  refine wpAny_pure ?_
  refine wpAny_bind (wpAny_isInstance (T := "tuple") tb PySem.F.sub_tuple_dict ?_)
  simp only [Bool.not_false, if_true]
  refine wpAny_bind (wpAny_rule ?_)
  exact wpAny_pure ⟨_, rfl, h⟩
theorem rc_dict_tuple {prog : Program} {w : World} {A : Around} {E : Value → Shared → Prop} {s : Shared} {Q : Value → Shared → Prop} {u v : Value} {kvs : List (PyData × PyData)} {xs : List PyData} {as bs : List Addr} (ra : Reads s.heap u (.dict kvs) as) (rb : Reads s.heap v (.tuple xs) bs) (hu : A.units < cLine) (h : Q (.bool false) s) :
    wpAny (model prog w) A (compareOp .Eq u v) Q E s := by
  show wpAny (model prog w) A (richCompare .Eq u v) Q E s
  cases ra with
  | @dict a oa es n kvs as1 bs1 k1 k2 k3 k4 k5 =>
    cases rb with
    | @tuple b ob vs n2 xs as2 m1 m2 m3 m4 =>
      obtain ⟨cls, dd, data, sl⟩ := oa
      obtain ⟨cls2, dd2, data2, sl2⟩ := ob
      try simp only at k2 k3 m2 m3
      subst k2 k3 m2 m3
      have hne : a ≠ b := fun e => by
        subst e
        rw [k1] at m1
        simp at m1
      exact (SeqAt.rc_eq_decline_or (k := false) ⟨_, k1, rfl⟩ ⟨_, m1, rfl⟩ (by decide) F.sub_tuple_dict F.slot_dict_eq F.slot_tuple_eq_refl
        (fun _ hq => dict_eq_no ⟨_, k1, rfl⟩ ⟨_, m1, rfl⟩ hq)
        (fun _ hq => call_meets F.slot_tuple_eq_refl ⟨_, m1, rfl⟩ F.entry_tuple_eq (F.args_tuple_eq_2 _ _) (SeqAt.tuple_eq_declines_dict b a vs es n2 n dd2 dd sl2 sl) ⟨m1, k1, hq⟩)
        (fun _ hq => wpAny_isSame_ref_other hne k1 m1 (by simp) hq) (.inr hu) h)
/-- {..} == (..): never -/
def eqDT : D → D → Option D
  | .dct ds, .tup xs => match dat 60 (.dct ds) && dat 60 (.tup xs) with
    | true => some (.bl false)
    | false => none
  | _, _ => none
def eqX (a b : D) : Option D := (eqD a b).or (eqDT a b)
section
variable {C : Cn}
theorem sop_eqDT (hs : Sysm C.X.K) (hu : C.X.A.units + 64 < cLine) : SOp C .froz (compareOp .Eq) (pur eqDT) := by
  intro pins s σ W st d1 d2 x y u v Q I k b1 b2 ru rv o
  have o' : Out C σ W (lift (eqDT d1 d2) st) _ := o
  cases d1 with
  | dct ds =>
    cases d2 with
    | tup xs =>
      have o' : Out C σ W (lift (match dat 60 (.dct ds) && dat 60 (.tup xs) with | true => some (D.bl false) | false => none) st) _ := o'
      cases q : dat 60 (.dct ds) && dat 60 (.tup xs) with
      | true =>
        rw [q] at o'
        obtain ⟨h1, h2⟩ := and2 q
        obtain ⟨l1, r1, _⟩ := b1.reads I hs k ru h1
        obtain ⟨l2, r2, _⟩ := b2.reads I hs k rv h2
        simp only [D.py] at r1 r2
        exact rc_dict_tuple r1 r2 (by omega) ⟨.bl _, W.H, I, rfl, o' (.bl false) W (.refl W) k rk_bl⟩
      | false => rw [q] at o'; exact False.elim o'
    | _ => exact False.elim o'
  | _ => exact False.elim o'
theorem sop_eqX (hs : Sysm C.X.K) (hu : C.X.A.units + 64 < cLine) : SOp C .froz (compareOp .Eq) (pur eqX) := SOp.or (sop_eq hs hu) (sop_eqDT hs hu)
end
end Sm


set_option Elab.async false
set_option linter.all false
set_option maxRecDepth 100000
set_option maxHeartbeats 1000000
/-! Sm22: (..) * int. -/
namespace Sm
open PySem PySem.Spec L2 PyProof.Rows
section
variable {X : Cx}
def rRepF (K : PySem.W.Frag) : R2 := fun x y H Q => ∃ l k xs, x = .ref l ∧ y = .int k ∧ SqT K H l xs ∧ xs ≠ [] ∧ 2 ≤ k ∧ k ≤ 1000 ∧ xs.length ≤ 1000 ∧ QT Q H (List.replicate k.toNat xs).flatten
theorem op_repF : OpR X (binaryOp .Mult) (rRepF X.K) := by
  rintro pins s σ H x y v u Q I rx ry ⟨l, k, xs, rfl, rfl, hT, nn, g2, g3, g4, q⟩
  cases rx
  obtain ⟨tk, rfl⟩ := ry
  obtain ⟨us, rv, ⟨⟨cl, di, da, so⟩, at_, ec, nr, ed⟩, _⟩ := I.tuple hT
  dsimp only at ec ed
  subst ec ed
  have len : us.length = xs.length := rv.length.symm
  have big : k.toNat * xs.length ≤ 1000 * 1000 := Nat.mul_le_mul (by omega) g4
  have bigI : ((us.toArray.size : Nat) : Int) * k ≤ 1000000 := by
    have e : ((k.toNat * xs.length : Nat) : Int) = k * xs.length := by rw [Int.natCast_mul, Int.toNat_of_nonneg (by omega)]
    rw [List.size_toArray, len, Int.mul_comm, ← e]; omega
  have full : us.toArray.isEmpty = false := by
    cases us with
    | nil => exact absurd (List.eq_nil_of_length_eq_zero (by rw [← len]; rfl)) nn
    | cons _ _ => rfl
  have flat : ∀ {β : Type} (ys : List β), ys.length = xs.length → (List.replicate k.toNat ys).flatten.length ≤ sizeLine := fun ys e => by
    rw [PyProof.Rows.lm_len_rep_flat, e, sizeLine_eq]; omega
  have tm := tuple_mulW l us.toArray nr di so k tk (by simp; omega) (by rw [full]; simp; omega) (by rw [full]; simp; omega) (by omega) (by unfold Builtin.Tuple.tupleTooMany; rw [sizeLine_eq]; simp only [decide_eq_false_iff_not]; omega) (by rw [size_rep, List.size_toArray]; exact flat us len)
  have tl : s.TypeIs (.ref l) "tuple" := ⟨_, at_, rfl⟩
  have nx : EP X pins σ Q (.ref s.heap.objs.size) { s with heap := s.heap.push { cls := Value.type "tuple", data := Data.seq (List.foldl (fun x1 x2 => x1 ++ x2) #[] (List.replicate k.toNat us.toArray)) }, toks := s.toks } := by
    rw [size_rep]
    exact newTup (t := s.toks) (its := (List.replicate k.toNat us).flatten) I (rv.rep k.toNat) (flat xs rfl) q
  have go := call_meets (prog := X.prog) (w := X.w) (A := X.A) (E := X.xe) (Q := EP X pins σ Q) F.slot_tuple_mul tl F.entry_tuple_mul (F.args_tuple_mul_2 _ _) tm ⟨at_, nx⟩
  exact wpAny_binaryOp_repeat_ref (T := "tuple") (U := "int") (by decide) tl (fun s' => typeIs_int s' k tk) noFill_tuple_mul F.fills_int_mul F.slot_int_rmul repeat_tuple F.slot_int_index.lookup (call_meets F.slot_int_rmul (typeIs_int s k tk) F.entry_int_rmul (F.args_int_rmul_2 _ _) (int_rmul_tuple k tk l us.toArray nr di so) ⟨at_, rfl, tl, go⟩)
end
/-- (..) * k, k from 2 to 1000 -/
def mulT : D → D → Option D
  | .tup xs, .int k => if xs.length ≠ 0 ∧ 2 ≤ k ∧ k ≤ 1000 ∧ xs.length ≤ 1000 then some (.tup (List.replicate k.toNat xs).flatten) else none
  | _, _ => none
section
variable {C : Cn}
theorem sop_mulT : SOp C .froz (binaryOp .Mult) (pur mulT) := by
  intro pins s σ W st d1 d2 x y u v Q I k b1 b2 ru rv o
  cases d1 with
  | tup ds =>
    cases d2 with
    | int n =>
      have f1 : C.rp W (.tup ds) x := by
        rcases b1 with h | ⟨_, _, _, h⟩
        · exact h
        · exact h.elim
      have e2 := b2.int
      have f1' := f1
      simp only [Rp] at f1'
      obtain ⟨a, xs, e1, s1, _, l1⟩ := f1'
      have o' : Out C σ W (lift (if ds.length ≠ 0 ∧ 2 ≤ n ∧ n ≤ 1000 ∧ ds.length ≤ 1000 then some (D.tup (List.replicate n.toNat ds).flatten) else none) st) _ := o
      by_cases z : ds.length ≠ 0 ∧ 2 ≤ n ∧ n ≤ 1000 ∧ ds.length ≤ 1000
      · rw [if_pos z] at o'
        subst e1 e2
        refine op_repF pins s σ W.H _ _ u v Q I ru rv ⟨a, n, xs, rfl, rfl, SqT.up k.sub s1, fun e => z.1 ?_, z.2.1, z.2.2.1, by rw [← l1.len]; exact z.2.2.2, fun p ob np no => ?_⟩
        · rw [l1.len, e]; rfl
        · exact o' (.ref p) (W.newT p ob _) (newT_ext k np) (newT_ok k np) (newT_rp k np no (l1.rep _))
      · rw [if_neg z] at o'; exact False.elim o'
    | _ => exact (show False from o).elim
  | _ => exact (show False from o).elim
def mulX (a b : D) : Option D := (mulA a b).or (mulT a b)
theorem sop_mulX : SOp C .froz (binaryOp .Mult) (pur mulX) := SOp.or sop_mulA sop_mulT
end
/-- x is not True, x no truth value -/
def isntT : D → D → Option D
  | .int _, .bl _ => some (.bl true)
  | .str _, .bl _ => some (.bl true)
  | .tup _, .bl _ => some (.bl true)
  | .lst _, .bl _ => some (.bl true)
  | _, _ => none
section
variable {C : Cn}
theorem sop_isntT : SOp C .froz (compareOp .IsNot) (pur isntT) := by
  intro pins s σ W st d1 d2 x y u v Q I k b1 b2 ru rv o
  have fin : (∀ i, d2 ≠ .bl i) → isntT d1 d2 = none := fun h => by
    cases d2 with
    | bl i => exact absurd rfl (h i)
    | _ => cases d1 <;> rfl
  cases d2 with
  | bl j =>
    have e := b2.bl
    subst e
    cases rv
    cases d1 with
    | int i =>
      have e1 := b1.int
      subst e1
      obtain ⟨t, rfl⟩ := ru
      exact wpAny_isNot_other rfl (fun z => nomatch z) ⟨.bl true, W.H, I, rfl, (show Out C σ W (lift (some (D.bl true)) st) _ from o) _ W (.refl W) k rk_bl⟩
    | str i =>
      have e1 := b1.str
      subst e1
      obtain ⟨t, rfl⟩ := ru
      exact wpAny_isNot_other rfl (fun z => nomatch z) ⟨.bl true, W.H, I, rfl, (show Out C σ W (lift (some (D.bl true)) st) _ from o) _ W (.refl W) k rk_bl⟩
    | tup xs =>
      obtain ⟨p, e1⟩ := bor_ref k b1 rfl
      subst e1
      cases ru
      exact wpAny_isNot_other rfl (fun z => nomatch z) ⟨.bl true, W.H, I, rfl, (show Out C σ W (lift (some (D.bl true)) st) _ from o) _ W (.refl W) k rk_bl⟩
    | lst xs =>
      obtain ⟨p, e1⟩ := bor_ref k b1 rfl
      subst e1
      cases ru
      exact wpAny_isNot_other rfl (fun z => nomatch z) ⟨.bl true, W.H, I, rfl, (show Out C σ W (lift (some (D.bl true)) st) _ from o) _ W (.refl W) k rk_bl⟩
    | _ => exact (show False from o).elim
  | _ =>
    have e := fin (fun i z => by cases z)
    have o' : Out C σ W (lift (isntT d1 _) st) _ := o
    rw [e] at o'
    exact False.elim o'
def isntX (a b : D) : Option D := (isntOp a b).or (isntT a b)
theorem sop_isntX : SOp C .froz (compareOp .IsNot) (pur isntX) := SOp.or sop_isnt sop_isntT
end
end Sm


set_option Elab.async false
set_option linter.all false
set_option maxRecDepth 100000
set_option maxHeartbeats 1000000
/-! Sm23: len(set([True, ..])); a, b = .. where a name is a cell. -/
namespace Sm
open PySem PySem.Spec L2
section
open PyProof.Rows
variable {P : Program} {w : World} {A : Around} {E : Value → Shared → Prop} {s : Shared}
theorem setB_new_at {w : World} {h : Heap} {a : Addr} {bs : List Bool} (ho : h.get? a = some { cls := .type "set", dict := none, data := .set #[] 0 (.fresh 0 0 (!w.params.followText "set-order")) }) : PpSet.SetB w h a (fun j => decide (j ∈ bs.take 0)) 0 := by
  refine ⟨_, #[], 0, _, ho, ⟨rfl, rfl, rfl⟩, rfl, (by simp), (by simp), (by simp), (by decide), rfl, rfl, List.Pairwise.nil, ?_⟩
  cases q : w.params.followText "set-order" with
  | false => exact .inr (by simp [SetTable.fresh, q])
  | true => exact .inl rfl
theorem set_update_bools {I : Addr} {fp wr : List Addr} {G : Array GenState → Array GenState → Prop} {n : Nat} {Pv : Nat → Value → Prop} {St : Nat → Shared → Prop} {R : Result → Shared → Prop}
    (W : WalksS P w A.in1 I fp wr G n Pv St) (S : Addr) (hSf : S ∉ fp) (bs : List Bool) (hn : n = bs.length) (hb : bs.length + 1 < scanBound) (hval : ∀ i v, Pv i v → ∃ k, bs[i]? = some k ∧ v = .bool k) :
    ∀ (k i : Nat) (s : Shared), n - i = k → i ≤ n → St i s → (∃ c, c ≤ i ∧ PpSet.SetB w s.heap S (fun j => decide (j ∈ bs.take i)) c) →
      (∀ s' c, Moved (S :: wr) G s s' → c ≤ n → PpSet.SetB w s'.heap S (fun j => decide (j ∈ bs)) c → R (.ok (.ret .none)) s') →
      codeAny (model P w) A (.builtin "set.update.loop" ⟨[.ref S, .ref I], []⟩) R s := by
  have hSw : S ∉ wr := fun h => hSf (W.sub _ h)
  have hsub : ∀ b ∈ wr, b ∈ S :: wr := fun b hb => List.mem_cons_of_mem _ hb
  intro k
  induction k with
  | zero =>
    intro i s hk' hi hst ⟨c, hc, hS⟩ hR
    have hin : i = n := by omega
    subst hin
    refine codeAny_builtin F.entry_set_update_loop ?_
    rw [Around.under_plainId F.plain_set_update_loop _]
    show wpAny _ A.in1 (pyNext (.ref I) >>= _) _ _ s
    refine wpAny_bind (W.done s _ _ hst fun s' hm => ?_)
    show wpAny _ A.in1 (PySem.ret Value.none) _ _ s'
    have e : bs.take i = bs := List.take_of_length_le (by omega)
    rw [e] at hS
    exact wpAny_pure (hR s' c (hm.mono hsub) hc (hS.at fun o e => hm.heap S o hSw e))
  | succ k ih =>
    intro i s hk' hi hst ⟨c, hc, hS⟩ hR
    have hlt : i < n := by omega
    refine codeAny_builtin F.entry_set_update_loop ?_
    rw [Around.under_plainId F.plain_set_update_loop _]
    show wpAny _ A.in1 (pyNext (.ref I) >>= _) _ _ s
    refine wpAny_bind (W.item i s _ _ hlt hst fun v s' hP hst' hm => ?_)
    obtain ⟨z, hz, rfl⟩ := hval i v hP
    have hS' : PpSet.SetB w s'.heap S (fun j => decide (j ∈ bs.take i)) c := hS.at fun o e => hm.heap S o hSw e
    show wpAny _ A.in1 (holding [Value.bool z] (setAdd S (.bool z)) >>= _) _ _ s'
    refine wpAny_bind (wpAny_holding ?_)
    unfold setAdd
    refine wpAny_holding ?_
    refine wpAny_bind ((PpSet.boolK P w).pyHash (PpSet.boolK_is P w z) ?_)
    refine PpSet.setB_add_hashed (s := { s' with toks := s'.toks + 1 }) hS' (by omega) fun h' hsb hS2 => ?_
    have hS3 : PpSet.SetB w h' S (fun j => decide (j ∈ bs.take (i + 1))) (if decide (z ∈ bs.take i) = true then c else c + 1) := hS2.congr fun j => by
      rw [List.take_add_one, hz]
      simp [List.mem_append]
    have hc3 : (if decide (z ∈ bs.take i) = true then c else c + 1) ≤ i + 1 := by
      split <;> omega
    refine wpAny_pure ⟨plainId_quiet F.plain_set_update_loop _, ih (i + 1) _ (by omega) hlt (W.frame _ s' _ _ hst' (Nat.le_succ _) fun b hb o e => ?_) ⟨_, hc3, hS3⟩ fun s'' c2 hm'' hc'' hS'' => ?_⟩
    · rw [hsb.2 b (fun h : b = S => hSf (by rw [← h]; exact hb))]; exact e
    · refine hR s'' c2 (Moved.trans W.gtrans ((hm.mono hsub).then_heap (Nat.le_succ _) fun b o hb e => ?_) hm'') hc'' hS''
      rw [hsb.2 b (fun h : b = S => hb (by rw [h]; exact List.mem_cons_self))]; exact e

set_option maxHeartbeats 3200000 in
theorem call_set_lstB {l : Addr} {items : Array Value} (bs : List Bool) {Q : Value → Shared → Prop} (hh : A.handled = none) (hl : s.heap.IsList l items) (hisz : items.size = bs.length) (hval : ∀ (i : Nat) (v : Value), items[i]? = some v → ∃ k, bs[i]? = some k ∧ v = .bool k) (hb : bs.length + 1 < scanBound)
    (h : ∀ (h' : Heap) (tk c : Nat), PpSet.SetB w h' s.heap.objs.size (fun j => decide (j ∈ bs)) c → c ≤ bs.length → (∀ b o, s.heap.get? b = some o → h'.get? b = some o) → Q (.ref s.heap.objs.size) { s with heap := h', toks := tk }) :
    wpAny (model P w) A (call (.type "set") [.ref l]) Q E s := by
  obtain ⟨c, tl, hmro⟩ := F.called_set.mro
  have hmade := F.called_set.made
  have hsub := F.called_set.sub
  refine wpAny_call (codeAny_of_tree ?_)
  show wpAny _ _ (callAny (.type "set") _) _ _ _
  refine wpAny_pure ⟨Code.quiet_builtin _ (by decide +kernel), codeAny_builtin F.entry_type_call ?_⟩
  rw [Around.under_plain (weight_type_call_type "set" [.ref l] []) rfl]
  have h1 := F.called_set.notType
  have h2 := F.called_set.canCreate
  have hct := F.typeCall_set_1 (.ref l)
  repeat (any_goals (first | assumption | wp_step))

  refine codeAny_mono (code_set_led1 (.ref l) (E := E) (Q₁ := fun obj s₁ => obj = .ref s.heap.objs.size ∧ s₁ = { s with heap := s.heap.push { cls := .type "set", dict := none, data := .set #[] 0 (.fresh 0 0 (!w.params.followText "set-order")) } }) ⟨rfl, rfl⟩) fun r s₁ hr => ?_
  cases r with
  | error e => exact hr
  | ok fl =>
    cases fl with
    | ret obj =>
      obtain ⟨rfl, rfl⟩ := hr
      have hS : (s.heap.push { cls := .type "set", dict := none, data := .set #[] 0 (.fresh 0 0 (!w.params.followText "set-order")) }).get? s.heap.objs.size = some { cls := .type "set", dict := none, data := .set #[] 0 (.fresh 0 0 (!w.params.followText "set-order")) } := Heap.get?_push_size _ rfl
      have hT : Shared.TypeIs { s with heap := s.heap.push { cls := .type "set", dict := none, data := .set #[] 0 (.fresh 0 0 (!w.params.followText "set-order")) } } (.ref s.heap.objs.size) "set" := ⟨_, hS, rfl⟩
      have hli := F.called_set.init.lookup
      have hbi := F.called_set.init.bind (.ref s.heap.objs.size)
      repeat (any_goals (first | assumption | wp_step))

      refine codeAny_mono (codeAny_call_builtin (R := wants (fun r s₂ => r = .none ∧ ∃ h' tk c, s₂ = { s with heap := h', toks := tk } ∧ PpSet.SetB w h' s.heap.objs.size (fun j => decide (j ∈ bs)) c ∧ c ≤ bs.length ∧
          (∀ b o, s.heap.get? b = some o → h'.get? b = some o)) E) F.called_set.init.plain F.entry_set_init (check_set_init_1 hT ?_)) fun r₂ s₂ hr₂ => ?_
      · obtain ⟨ol, hol, hcl, nl, hdl⟩ := hl
        obtain ⟨ocls, odict, odata, oslots⟩ := ol
        simp only at hcl hdl
        subst hcl; subst hdl
        have hol' : (s.heap.push { cls := .type "set", dict := none, data := .set #[] 0 (.fresh 0 0 (!w.params.followText "set-order")) }).get? l = some { cls := .type "list", dict := odict, data := .seq items nl, slots := oslots } := Heap.get?_push_of_some _ hol
        have hsls := F.sub_list_set
        have hslf := F.sub_list_frozenset
        have hne : (Value.type "list" == Value.type "dict") = false := by decide
        have hl1 : (s.heap.push { cls := .type "set", dict := none, data := .set #[] 0 (.fresh 0 0 (!w.params.followText "set-order")) }).IsList l items := ⟨_, hol', rfl, nl, rfl⟩
        unfold Builtin.«set.__init__» noKeywords Builtin.Frozenset.updateFrom
        generalize hPI : pyIter = PI
        wp_walk
        subst hPI

        refine wpAny_pyIter_list hl1 ?_
        refine wpAny_bind (wpAny_runValue ?_)
        have hlS : l < s.heap.objs.size := Heap.lt_size hol
        have hh3 : A.in1.in1.in1.handled = none := by simp [hh]
        have hz1 : (s.heap.push { cls := .type "set", dict := none, data := .set #[] 0 (.fresh 0 0 (!w.params.followText "set-order")) }).objs.size = s.heap.objs.size + 1 := Heap.size_push ..
        have hneI : l ≠ (s.heap.push { cls := .type "set", dict := none, data := .set #[] 0 (.fresh 0 0 (!w.params.followText "set-order")) }).objs.size := by
          rw [Heap.size_push]; exact Nat.ne_of_lt (Nat.lt_succ_of_lt hlS)
        have hSf : s.heap.objs.size ∉ [(s.heap.push { cls := .type "set", dict := none, data := .set #[] 0 (.fresh 0 0 (!w.params.followText "set-order")) }).objs.size, l] := by
          rw [Heap.size_push]; simp only [List.mem_cons, List.mem_singleton, List.not_mem_nil, or_false, not_or]
          exact ⟨Nat.ne_of_lt (Nat.lt_succ_self _), Nat.ne_of_gt hlS⟩
        refine set_update_bools ((Walks.list hh3 _ l hneI items).toS) s.heap.objs.size
          hSf bs hisz hb hval (items.size - 0) 0 _ (by omega) (Nat.zero_le _)
          ⟨⟨_, Heap.get?_push_size _ rfl, rfl, rfl⟩, (hl1.push _)⟩ ?hS0 ?hR
        case hS0 =>
          have hget : ((s.heap.push { cls := .type "set", dict := none, data := .set #[] 0 (.fresh 0 0 (!w.params.followText "set-order")) }).push { cls := .type "list_iterator", data := .fields #[.ref l, .int 0 0] }).get? s.heap.objs.size
              = some { cls := .type "set", dict := none, data := .set #[] 0 (.fresh 0 0 (!w.params.followText "set-order")) } := Heap.get?_push_of_some _ hS
          exact ⟨0, Nat.le_refl 0, setB_new_at hget⟩
        case hR =>
          intro s' c' hm hc' hS'
          obtain ⟨h', g2, d', tk', os'⟩ := s'
          have eg : g2 = s.gens := hm.gens
          have ed : d' = s.drawn := hm.drawn
          have eo : os' = s.os := hm.os
          subst eg; subst ed; subst eo
          show wpAny _ _ _ _ _ _
          refine wpAny_pure ?_
          show wpAny _ _ (PySem.ret Value.none) _ _ _
          rw [hisz] at hc'
          refine wpAny_pure ⟨rfl, h', tk', c', rfl, hS', hc', fun b o e => ?_⟩
          have hb0 : b < s.heap.objs.size := Heap.lt_size e
          have hb1 : b ≠ s.heap.objs.size := Nat.ne_of_lt hb0
          have hb2 : b ≠ (s.heap.push { cls := .type "set", dict := none, data := .set #[] 0 (.fresh 0 0 (!w.params.followText "set-order")) }).objs.size := by
            rw [Heap.size_push]; exact Nat.ne_of_lt (Nat.lt_succ_of_lt hb0)
          exact hm.heap b o (by simp only [List.mem_cons, List.mem_singleton, List.not_mem_nil, or_false, not_or]; exact ⟨hb1, hb2⟩) (Heap.get?_push_of_some _ (Heap.get?_push_of_some _ e))

      · cases r₂ with
        | error e => exact hr₂
        | ok fl₂ =>
          cases fl₂ with
          | ret r =>
            obtain ⟨rfl, h', tk, c', rfl, hS', hc', hk'⟩ := hr₂
            repeat (any_goals (first | assumption | wp_step))
            exact h _ _ _ hS' hc' hk'
          | _ => exact hr₂.elim
    | _ => exact hr.elim
end
end Sm


set_option Elab.async false
set_option linter.all false
set_option maxRecDepth 100000
set_option maxHeartbeats 1000000
/-! Sm24: len(set([True, ..])); a, b = .. where a name is a cell. -/
namespace Sm
open PySem PySem.Spec L2
/-- truth values -/
def boolL : List D → Option (List Bool)
  | [] => some []
  | .bl i :: r => (boolL r).map (i :: ·)
  | _ :: _ => none
theorem boolL_map : ∀ {ds : List D} {bs : List Bool}, boolL ds = some bs → ds = bs.map D.bl
  | [], bs, h => by cases h; rfl
  | .bl i :: r, bs, h => by
    cases q : boolL r with
    | none => simp [boolL, q] at h
    | some ms =>
      simp [boolL, q] at h
      subst h
      rw [boolL_map q, List.map_cons]
  | .non :: _, _, h => by simp [boolL] at h
  | .int _ :: _, _, h => by simp [boolL] at h
  | .str _ :: _, _, h => by simp [boolL] at h
  | .tup _ :: _, _, h => by simp [boolL] at h
  | .lst _ :: _, _, h => by simp [boolL] at h
  | .scr _ :: _, _, h => by simp [boolL] at h
  | .dct _ :: _, _, h => by simp [boolL] at h
  | .obj _ :: _, _, h => by simp [boolL] at h
  | .glo _ :: _, _, h => by simp [boolL] at h
  | .raw _ :: _, _, h => by simp [boolL] at h
theorem boolL_ok (bs : List Bool) : boolL (bs.map D.bl) = some bs := by
  induction bs with
  | nil => rfl
  | cons b bs ih => rw [List.map_cons, boolL, ih]; rfl
/-- how many kinds -/
def kinds (bs : List Bool) : Nat := [true, false].countP fun b => decide (b ∈ bs)
def setBD (d : D) : Option D := match d with
  | .lst ds => if ds.length ≤ 4000 then (boolL ds).map fun bs => .int (kinds bs) else none
  | _ => none
def eLenSetB (m : Ex) : Ex := fun env => bnd (m env) fun d => lift (setBD d)
theorem vals_bools : ∀ {bs : List Bool} {its : List Value}, Vals (bs.map V.bl) its → its = bs.map Value.bool
  | [], _, h => by cases h; rfl
  | b :: bs, _, h => by
    cases h with
    | cons r rr =>
      rw [vals_bools rr, List.map_cons]
      cases r
      rfl
section
variable {C : Cn} {κ : Kd} {a : Expr} {ma : Ex} {p p2 q pos : Pos}
open PyProof.Rows in
theorem se_lenSetB (hc : C.X.calm = true) (hg : Gl C.X "len") (hm : C.X.mg "len" = none) (hg2 : Gl C.X "set") (hm2 : C.X.mg "set" = none) (ha : SE C κ a ma)
    (na : starEach [a] C.X.env = (false, eval a C.X.env) :: starEach [] C.X.env := by rfl) : SE C .froz (.Call (.Name "len" p) [.Call (.Name "set" p2) [a] [] q] [] pos) (eLenSetB ma) :=
  SE.mk fun pins s σ env W st Q I R o => by
    refine Call_ (ld_blt I hg hm boot_len (PyProof.Rows.callWith_builtin1 (PyProof.Rows.args_cons ?_ rfl) rfl rfl))
    refine Call_ (ld_blt I hg2 hm2 boot_set ?_)
    refine PyProof.Rows.callWith_type1 (PyProof.Rows.args_cons (ha.go I R ((Out.bnd o).imp fun d st1 o1 v u s1 W1 e1 k1 r1 I1 ru => PyProof.Rows.args_nil ?_)) na) na rfl
    obtain ⟨dd, hd, o2⟩ := out_lift o1
    cases d with
    | lst ds =>
      have hd : (if ds.length ≤ 4000 then (boolL ds).map (fun bs => D.int (kinds bs)) else none) = some dd := hd
      by_cases hz : ds.length ≤ 4000
      · rw [if_pos hz] at hd
        cases q2 : boolL ds with
        | none => rw [q2] at hd; cases hd
        | some bs =>
          rw [q2] at hd
          cases hd
          have eds := boolL_map q2
          obtain ⟨ad, vs, its, ev, eu, hq, _, rv, l, _⟩ := lot_vals I1 k1 r1.bor ru (show lotD (.lst ds) = some (true, ds) from rfl)
          rw [eds] at l
          have evs := RpL.bls l
          subst evs eu
          have ei := vals_bools rv
          rw [if_pos rfl] at hq
          have hlen : its.toArray.size = bs.length := by rw [List.size_toArray, ei, List.length_map]
          have hln : bs.length = ds.length := by rw [eds, List.length_map]
          refine call_set_lstB bs (I1.ok.hd hc) hq hlen (fun i v hv => ?_) (by show _ < 4096; omega) fun h' tk c R' _ hk => PyProof.Rows.args_nil ?_
          · rw [List.getElem?_toArray, ei, List.getElem?_map] at hv
            cases e : bs[i]? with
            | none => rw [e] at hv; cases hv
            | some k => rw [e] at hv; cases hv; exact ⟨k, rfl, rfl⟩
          have I2 : Inv C.X pins σ W1.H { s1 with heap := h', toks := tk } := I1.kept hk
          obtain ⟨o', es, ep, t, ho, hex, hd', _, nd, mem, _, hf, hn, _, _⟩ := R'
          have hlen2 : es.size = kinds bs := by
            have nd2 : ([true, false].filter fun b => decide (b ∈ bs)).Nodup := List.Nodup.sublist List.filter_sublist (by decide)
            have h1 : (es.toList.map PpSet.keyB).Perm ([true, false].filter fun b => decide (b ∈ bs)) := (List.perm_ext_iff_of_nodup nd nd2).mpr fun k => by rw [← mem k]; cases k <;> simp
            have := h1.length_eq
            rw [List.length_map, Array.length_toList] at this
            rw [this, kinds, List.countP_eq_length_filter]
          have hle : kinds bs ≤ 4000 := Nat.le_trans List.countP_le_length (by simp)
          refine call_len_set ho hex hd' hf (by omega) ?_
          rw [hlen2]
          exact EP.int (κ := .froz) (I2.tok _) k1 fun z W' e' k' r' => o2 z W' (e1.trans e') k' r'
      · rw [if_neg hz] at hd; cases hd
    | _ => cases hd
end
section
variable {C : Cn} {κ κ1 κ2 : Kd} {i j : Nat} {x y : Str} {a b : Expr} {ma mb : Ex} {px py pt pos : Pos} {kt k2 : _} {pt2 : _}
theorem ss_par2c (hc : C.X.calm = true) (n : Nm C i x) (n' : Nm C j y) (ha : SE C κ1 a ma) (hb : SE C κ2 b mb)
    (hw : swappedStores [.Tuple [.Name x px, .Name y py] kt pt] (.Tuple [a, b] k2 pt2) C.X.env = pure none) (h1 : κ1.sto = true) (h2 : κ2.sto = true)
    (hs : swapsWithSole [.Tuple [.Name x px, .Name y py] kt pt] (.Tuple [a, b] k2 pt2) pos.line C.X.env = pure false := by rfl)
    (e1 : starEach [a, b] C.X.env = (false, eval a C.X.env) :: starEach [b] C.X.env := by rfl) (e2 : starEach [b] C.X.env = (false, eval b C.X.env) :: starEach [] C.X.env := by rfl)
    (s1 : (assignEach (.Name x px :: [.Name y py]) C.X.env).map (·.2) = assign (.Name x px) C.X.env :: (assignEach [.Name y py] C.X.env).map (·.2) := by rfl)
    (s2 : (assignEach (.Name y py :: []) C.X.env).map (·.2) = assign (.Name y py) C.X.env :: (assignEach [] C.X.env).map (·.2) := by rfl)
    (hn : (assignEach [.Name x px, .Name y py] C.X.env).length = 2 := by rfl) (hst : (assignEach [.Name x px, .Name y py] C.X.env).findIdx? (·.1) = none := by rfl)
    (h0 : (assignEach [.Tuple [.Name x px, .Name y py] kt pt] C.X.env).map (·.2) = [assign (.Tuple [.Name x px, .Name y py] kt pt) C.X.env] := by rfl) :
    SS C κ (.Assign [.Tuple [.Name x px, .Name y py] kt pt] (.Tuple [a, b] k2 pt2) pos) (sPar2 κ1 κ2 i j ma mb) :=
  PS.imp (ps_asg (pe_tupF (pa_cons ha (pa_cons hb pa_nil e2) e1)) (pg_tup hc (pgs_cons (pg_name n.nod n.at_ n.loc n.fn) (pgs_cons (pg_name n'.nod n'.at_ n'.loc n'.fn) pgs_nil s2) s1) hn hst) hs hw h0) fun De σ H ⟨env, W, st, e, R, o⟩ => by
    subst e
    refine ⟨env, W, st, rfl, R, ((OutS.bnd o).out R.ext).imp fun d1 st1 o1 v1 W1 q1 k1 r1 => ⟨env, W1, st1, rfl, R.up q1 k1, ((OutS.bnd o1).out (R.ext.trans q1)).imp fun d2 st2 o2 v2 W2 q2 k2 r2 => ?_⟩⟩
    have R1 := R.putK q1 k1 n.lt h1 r1
    have R2 := R1.putK q2 k2 n'.lt h2 r2
    refine ⟨(by decide : (2 : Nat) ≤ sizeLine), fun p ob np no => ?_⟩
    exact ⟨p, _, rfl, newT_sq k2 np, rfl, v1, _, rfl, v2, _, rfl, rfl, (show kFl C κ De W (.nx _) st2 from o2) _ (W2.newT p ob _) (R2.up (newT_ext k2 np) (newT_ok k2 np)) ((q1.trans q2).trans (newT_ext k2 np)).lat⟩
end
end Sm


set_option Elab.async false
set_option linter.all false
set_option maxRecDepth 100000
set_option maxHeartbeats 1000000
/-! Sm25: x.extend(a tuple) -/
namespace PySem.SeqAt
open AutoSeq1 (wpAny_loadPart' idx_int sub_tuple_tuple sub_list_list sub_tuple_list sub_list_tuple)
theorem list_extend_tup (l : Addr) (items : Array Value) (n : Nat) (b : Addr) (items2 : Array Value) (n2 : Nat) (dd : Option Addr) (sl : Array (Option Value)) (hs0 : ¬(!items.isEmpty && Builtin.List.listTooLong (items.size + items2.size)) = true) (hs1 : items.size ≤ sizeLine) (hs2 : items.size + items2.size ≤ sizeLine + 1) :
    Meets (Builtin.«list.extend» ⟨[.ref l, .ref b], []⟩) (fun _ R s => s.heap.get? l = some { cls := .type "list", dict := none, data := .seq items n, slots := #[] } ∧ s.heap.get? b = some { cls := .type "tuple", dict := dd, data := .seq items2 n2, slots := sl } ∧ R (.ok (.ret Value.none)) { s with heap := s.heap.update l (Obj.mapSeq fun x => x ++ items2), toks := s.toks }) :=
  .of_wp fun prog w A R s h => by
    obtain ⟨hp, g, d, tk, os⟩ := s; obtain ⟨hl, hb, h⟩ := h; have f1 := idx_int; have f2 := sub_tuple_tuple; have f3 := sub_list_list; have f4 := sub_tuple_list; have f5 := sub_list_tuple;
    have hz' : (items ++ items2).size ≤ sizeLine + 1 := by rw [Array.size_append]; exact hs2
    wp_walk using (wpAny_updateSeq hl rfl (hz := hs1) (_hz' := hz')), wpAny_loadPart' hl, wpAny_loadPart' hb; exact ⟨_, rfl, h⟩
end PySem.SeqAt
namespace Sm
open PySem PySem.Spec L2
def rExtendT (K : PySem.W.Frag) : V → List V → Hp → VK → Prop := fun x vs H Q => ∃ l b xs zs, x = .ref l ∧ vs = [.ref b] ∧ H l = some (.lst xs) ∧ SqT K H b zs ∧ xs.length + zs.length ≤ sizeLine ∧ Q .non (upd H l (.lst (xs ++ zs)))
theorem mt_extendT {X : Cx} : MtM X "list.extend" (rExtendT X.K) := by
  intro pins s σ H x vs v us Q I rx rv h
  obtain ⟨l, b, xs, zs, rfl, rfl, hH, hB, hz, q⟩ := h
  cases rx
  obtain ⟨u, rfl, ru⟩ := rv.one
  cases ru
  obtain ⟨z, its, n, r, hl, e⟩ := I.lstM hH
  obtain ⟨its2, r2, ⟨o2, e2, c2, n2, d2⟩, z2⟩ := I.tuple hB
  have hl2 := r2.length
  have hsz : its.toArray.size + its2.toArray.size ≤ sizeLine := by rw [List.size_toArray, List.size_toArray]; omega
  have hlong : ¬ (!its.toArray.isEmpty && Builtin.List.listTooLong (its.toArray.size + its2.toArray.size)) = true := by
    rw [notLongL hsz, Bool.and_false]
    exact Bool.false_ne_true
  obtain ⟨cls, dd, dat, sl⟩ := o2
  cases c2
  cases d2
  refine call_meets F.slot_list_extend ⟨_, e, rfl⟩ F.entry_list_extend (F.args_list_extend_2 _ _)
    (SeqAt.list_extend_tup l its.toArray n b its2.toArray n2 dd sl hlong (by rw [List.size_toArray]; omega) (by omega)) ⟨e, e2, ?_⟩
  refine ⟨.non, _, I.lset (its' := its ++ its2) hH e (by simp) (r.append r2) ?_, rfl, q⟩
  rw [List.length_append]
  omega
def extTL (i : Nat) (xs : List D) (d : D) : Sx := fun env => match d with
  | .tup ys => if xs.length + ys.length ≤ line then ret (.nx (env.put i true (.lst (xs ++ ys)))) else halt
  | _ => halt
def sExtT (i : Nat) (m : Ex) : Sx := fun env => withOwn (ownL (env i)) fun xs => bnd (m env) fun d => extTL i xs d env
section
variable {C : Cn} {i : Nat}
theorem ss_extT {x : Str} {px apos cpos pos : Pos} {e : Expr} {me : Ex} {κe κ : Kd} (n : Nm C i x) (hv : Vis C.X.env.scope x) (he : SE C κe e me) (hd : (x == ("__debug__" : Str)) = false := by decide) (hcd : (x == ("__classdict__" : Str)) = false := by decide)
    (hbase : attributeBase (.Name x px) "extend" C.X.env (eval (.Name x px) C.X.env) = eval (.Name x px) C.X.env := by rfl)
    (hfew : ((backTo cpos (starEach [e] C.X.env)).all (fun x => !x.1) && (backToKw cpos (keywordEach [] C.X.env)).all (fun x => x.1.isSome)
      && decide ([e].length + ([] : List Keyword).length + (if ([] : List Keyword).isEmpty then 0 else 1) < 30)) = true := by rfl)
    (hline : (apos.endLine == cpos.line) = true := by rfl) (hs : starEach [e] C.X.env = (false, eval e C.X.env) :: starEach [] C.X.env := by rfl) (hplain : (backTo cpos (starEach [] C.X.env)).any (·.1) = false := by rfl)
    (hsw : swapsWith (.Call (.Attribute (.Name x px) "extend" apos) [e] [] cpos) none pos.line C.X.env = pure false := by rfl) :
    SS C κ (.Expr (.Call (.Attribute (.Name x px) "extend" apos) [e] [] cpos) pos) (sExtT i me) :=
  PS.imp (ps_expr (pe_bm (r := rExtendT C.X.K) F.plainAttrs_list F.slot_list_extend F.type_list_extend mt_extendT (pe_var n.at_ hv hd hcd) (pa_cons he pa_nil hs) hbase hfew hline hs hplain) hsw) fun De σ H ⟨env, W, st, e, R, o⟩ => by
    subst e
    obtain ⟨xs, hei, o⟩ := own_case o
    · obtain ⟨a, vs, ha, hH, l⟩ := own_at (st1 := st) (W1 := W) R hei
      refine ⟨.ref a, ha, .inl ⟨rfl, vs, .inl (.inl hH)⟩, ?_⟩
      refine te_of (κe := κe) R o fun d st1 v W1 e1 k1 r1 o1 => ?_
      have R1 := R.up e1 k1
      obtain ⟨a', vs', ha', hH', l'⟩ := own_at (st1 := st) (W1 := W) R1 hei
      rw [ha] at ha'
      cases ha'
      cases d with
      | tup ys =>
        have o1 : OutS C ((if xs.length + ys.length ≤ line then ret (Fl.nx (env.put i true (.lst (xs ++ ys)))) else halt) st1) (kFl C κ De W) := o1
        obtain ⟨b, ws, ev, hb, lb⟩ := r1.bor.tup k1
        subst ev
        by_cases hz : xs.length + ys.length ≤ line
        · rw [if_pos hz] at o1
          refine ⟨a, b, vs', ws, rfl, rfl, hH', hb, by rw [← l'.len, ← lb.len, ← line_eq]; exact hz, ?_⟩
          exact (show kFl C κ De W (.nx (env.put i true (.lst (xs ++ ys)))) st1 from o1) σ (W1.new a (.lst (vs' ++ ws))) (R1.updOwn hei ha (l'.app lb)) (e1.lat.trans set_lat)
        · rw [if_neg hz] at o1; exact False.elim o1
      | _ => exact False.elim (show False from o1)
end
end Sm


set_option Elab.async false
set_option linter.all false
set_option maxRecDepth 100000
set_option maxHeartbeats 1000000
/-! Sm26: tuple(range(..)), frozen at once -/
namespace Sm
open PySem PySem.Spec L2 PyProof.Rows
def tTupRgF (te : L2.St → Hp → (Int → Int → Hp → Prop) → Prop) : TE := fun σ H Q => te σ H fun a b H1 => RgOk a b ∧ QT Q H1 (rgV a b)
theorem pe_tupRgF {X : Cx} {e : Expr} {te : L2.St → Hp → (Int → Int → Hp → Prop) → Prop} {p pos : Pos} (hc : X.calm = true) (hg : Gl X "tuple") (hm : X.mg "tuple" = none) (he : PRg X e te) (na : starEach [e] X.env = (false, eval e X.env) :: starEach [] X.env := by rfl) : PE X (.Call (.Name "tuple" p) [e] [] pos) (tTupRgF te) := by
  refine ⟨fun pins s σ H Q I h => ?_⟩
  refine Call_ (ld_blt I hg hm boot_tuple (PyProof.Rows.callWith_type1 (args_cons (thn (he pins s σ H _ I h) fun x s1 ⟨r, a, b, t, u, v, H1, ex, hr, I1, ok, q⟩ => args_nil ?_) na) na))
  subst ex
  obtain ⟨b1, b2, b3, b4, b5⟩ := ok
  refine call_tuple_range (n := (b - a).toNat) (I1.ok.hd hc) hr (small_one b1 b2 b3 b4) (rangeSize_nat a b) b5 fun h' tk acc hk hi => ?_
  have I2 : Inv X pins σ H1 { s1 with heap := h', toks := tk } := I1.kept hk
  have := newTup (t := tk) (Q := Q) (its := acc.toList) I2 (vals_rg hi) (by rw [rgV_length, sizeLine_eq]; omega) q
  simpa [tupO] using this
def eRgT1 (m : Ex) : Ex := fun env => bnd (m env) fun d => lift (match d with | .int j => if sm62 j = true ∧ j ≤ line then some (.tup (rngD 0 j)) else none | _ => none)
section
variable {C : Cn} {κ : Kd} {e : Expr} {me : Ex} {p p2 pos pos2 : Pos}
theorem se_rgT1 (hc : C.X.calm = true) (hg : Gl C.X "tuple") (hm : C.X.mg "tuple" = none) (hg2 : Gl C.X "range") (hm2 : C.X.mg "range" = none) (he : SE C κ e me) (na : starEach [e] C.X.env = (false, eval e C.X.env) :: starEach [] C.X.env := by rfl)
    (na2 : starEach [.Call (.Name "range" p2) [e] [] pos2] C.X.env = (false, eval (.Call (.Name "range" p2) [e] [] pos2) C.X.env) :: starEach [] C.X.env := by rfl) :
    SE C .froz (.Call (.Name "tuple" p) [.Call (.Name "range" p2) [e] [] pos2] [] pos) (eRgT1 me) :=
  PE.imp (pe_tupRgF hc hg hm (prg_1 hg2 hm2 he na) na2) fun σ H Q ⟨env, W, st, e, R, o⟩ => by
    subst e
    refine ⟨env, W, st, rfl, R, (Out.bnd o).imp fun d st1 o1 v W1 e1 k1 r1 => ?_⟩
    cases d with
    | int j =>
      have ev := r1.bor.int
      subst ev
      obtain ⟨dd, hd, o2⟩ := out_lift o1
      have hd : (if sm62 j = true ∧ j ≤ line then some (D.tup (rngD 0 j)) else none) = some dd := hd
      by_cases z : sm62 j = true ∧ j ≤ line
      · rw [if_pos z] at hd
        cases hd
        refine ⟨j, rfl, rg_ok (by decide) z.1 (by have := z.2; omega), fun q ob nq no => ?_⟩
        exact o2 _ (W1.newT q ob (rgV 0 j)) (e1.trans (newT_ext k1 nq)) (newT_ok k1 nq) (newT_rp k1 nq no rng_lst)
      · rw [if_neg z] at hd; cases hd
    | _ => exact (show False from o1).elim
end
end Sm


set_option Elab.async false
set_option linter.all false
set_option maxRecDepth 100000
set_option maxHeartbeats 1000000
/-! Pl1: plain tools: running the combinators. -/
namespace Sm
open PySem PySem.Spec L2
@[simp] theorem bnd_ok' {α β : Type} {m : M α} {f : α → M β} {st : Store} : bnd m f st = (match m st with | .ok a s' => f a s' | .exc c d s' => .exc c d s' | .stuck => .stuck) := rfl
theorem bnd_eq {α β : Type} {m : M α} {f : α → M β} {st st1 : Store} {a : α} (h : m st = .ok a st1) : bnd m f st = f a st1 := by simp [h]
theorem lcS_pure {α : Type} {g : Gx} {t : Tx} {m : Ex} {env : En} {st : Store} (enc : α → D) (p : α → Bool) (f : α → D) : ∀ (xs : List α), (∀ x ∈ xs, ∃ e1, g (enc x) env = some e1 ∧ t e1 st = .ok (p x) st ∧ (p x = true → m e1 st = .ok (f x) st)) →
    lcS g t m (xs.map enc) env st = .ok ((xs.filter p).map f) st
  | [], _ => rfl
  | x :: xs, h => by
    obtain ⟨e1, h1, h2, h3⟩ := h x List.mem_cons_self
    have ih := lcS_pure (g := g) (t := t) (m := m) (env := env) (st := st) enc p f xs fun y hy => h y (List.mem_cons_of_mem _ hy)
    rw [List.map_cons]
    unfold lcS
    rw [h1]
    show bnd (t e1) _ st = _
    rw [bnd_eq h2]
    cases q : p x with
    | true => rw [if_pos rfl, bnd_eq (h3 q), bnd_eq ih, List.filter_cons_of_pos q, List.map_cons]; rfl
    | false => rw [if_neg Bool.false_ne_true, ih, List.filter_cons_of_neg (by simp [q])]
theorem eLc_pure {α : Type} {vs : List Nat} {it : Lx} {g : Gx} {t : Tx} {m : Ex} {env : En} {st st1 : Store} (xs : List α) (enc : α → D) (p : α → Bool) (f : α → D) (hi : it env st = .ok (xs.map enc) st1) (hl : xs.length ≤ line)
    (h : ∀ x ∈ xs, ∃ e1, g (enc x) (env.clr vs) = some e1 ∧ t e1 st1 = .ok (p x) st1 ∧ (p x = true → m e1 st1 = .ok (f x) st1)) : eLc vs it g t m env st = .ok (.lst ((xs.filter p).map f)) st1 := by
  unfold eLc
  rw [bnd_eq hi, if_pos (by simpa using hl)]
  unfold quiet
  rw [bnd_eq (lcS_pure enc p f xs h)]
  rfl
/-- .. without a test -/
theorem eLc_map {α : Type} {vs : List Nat} {it : Lx} {g : Gx} {t : Tx} {m : Ex} {env : En} {st st1 : Store} (xs : List α) (enc : α → D) (f : α → D) (hi : it env st = .ok (xs.map enc) st1) (hl : xs.length ≤ line) (ht : ∀ e, t e st1 = .ok true st1)
    (h : ∀ x ∈ xs, ∃ e1, g (enc x) (env.clr vs) = some e1 ∧ m e1 st1 = .ok (f x) st1) : eLc vs it g t m env st = .ok (.lst (xs.map f)) st1 := by
  have := eLc_pure (vs := vs) (g := g) (t := t) (m := m) xs enc (fun _ => true) f hi hl fun x hx => let ⟨e1, h1, h2⟩ := h x hx; ⟨e1, h1, ht e1, fun _ => h2⟩
  rwa [List.filter_eq_self.mpr (by simp)] at this
end Sm


set_option Elab.async false
set_option linter.all false
set_option maxRecDepth 100000
set_option maxHeartbeats 1000000
/-! Pl2: plain tools: data. -/
namespace Sm
open PySem PySem.Spec L2
theorem enumD_map {α : Type} (f : α → D) : ∀ (xs : List α) (k : Nat), enumD k (xs.map f) = (xs.zipIdx k).map fun p => .tup [.int (p.2 : Nat), f p.1]
  | [], _ => rfl
  | x :: xs, k => by simp [enumD, enumD_map f xs (k + 1)]
theorem zipD_map {α β : Type} (f : α → D) (g : β → D) : ∀ (xs : List α) (ys : List β), zipD (xs.map f) (ys.map g) = (xs.zip ys).map fun p => .tup [f p.1, g p.2]
  | [], _ => rfl
  | _ :: _, [] => rfl
  | x :: xs, y :: ys => by
    have := zipD_map f g xs ys
    simp only [zipD] at this ⊢
    simp [this]
@[simp] theorem iEnumS_eq {m : Ex} {env : En} {st st1 : Store} {d : D} (h : m env st = .ok d st1) : iEnumS m env st = (match seqD d with | some xs => .ok (enumD 0 xs) st1 | none => .stuck) := by
  unfold iEnumS
  rw [bnd_eq h]
  cases seqD d <;> rfl
/-! ### shapes -/
@[simp] theorem shp_int {n i} : shp n (.int i) = true := by cases n <;> simp [shp]
@[simp] theorem shp_bl {n i} : shp n (.bl i) = true := by cases n <;> simp [shp]
@[simp] theorem shp_str {n i} : shp n (.str i) = true := by cases n <;> simp [shp]
@[simp] theorem shp_non {n} : shp n .non = true := by cases n <;> simp [shp]
@[simp] theorem shp_tup {n : Nat} {xs : List D} : shp (n + 1) (.tup xs) = xs.all (shp n) := by simp [shp, shpL_all]
@[simp] theorem shp_lst {n : Nat} {xs : List D} : shp (n + 1) (.lst xs) = xs.all (shp n) := by simp [shp, shpL_all]
@[simp] theorem shp_tup60 {xs : List D} : shp 60 (.tup xs) = xs.all (shp 59) := shp_tup (n := 59)
@[simp] theorem shp_tup59 {xs : List D} : shp 59 (.tup xs) = xs.all (shp 58) := shp_tup (n := 58)
@[simp] theorem shp_tup58 {xs : List D} : shp 58 (.tup xs) = xs.all (shp 57) := shp_tup (n := 57)
@[simp] theorem shp_lst60 {xs : List D} : shp 60 (.lst xs) = xs.all (shp 59) := shp_lst (n := 59)
@[simp] theorem shp_lst59 {xs : List D} : shp 59 (.lst xs) = xs.all (shp 58) := shp_lst (n := 58)
@[simp] theorem shp_lst58 {xs : List D} : shp 58 (.lst xs) = xs.all (shp 57) := shp_lst (n := 57)
@[simp] theorem dat_int {n i} : dat n (.int i) = true := by cases n <;> simp [dat]
@[simp] theorem dat_bl {n i} : dat n (.bl i) = true := by cases n <;> simp [dat]
@[simp] theorem dat_str {n i} : dat n (.str i) = true := by cases n <;> simp [dat]
@[simp] theorem dat_non {n} : dat n .non = true := by cases n <;> simp [dat]
@[simp] theorem dat_tup {n : Nat} {xs : List D} : dat (n + 1) (.tup xs) = xs.all (dat n) := by simp [dat, datL_all]
@[simp] theorem dat_lst {n : Nat} {xs : List D} : dat (n + 1) (.lst xs) = xs.all (dat n) := by simp [dat, datL_all]
@[simp] theorem dat_tup60 {xs : List D} : dat 60 (.tup xs) = xs.all (dat 59) := dat_tup (n := 59)
@[simp] theorem dat_tup59 {xs : List D} : dat 59 (.tup xs) = xs.all (dat 58) := dat_tup (n := 58)
@[simp] theorem dat_lst60 {xs : List D} : dat 60 (.lst xs) = xs.all (dat 59) := dat_lst (n := 59)
@[simp] theorem dat_lst59 {xs : List D} : dat 59 (.lst xs) = xs.all (dat 58) := dat_lst (n := 58)
mutual
theorem dat_up : ∀ (n : Nat) (d : D), dat n d = true → dat (n + 1) d = true
  | _, .non, _ => by simp
  | _, .bl _, _ => by simp
  | _, .int _, _ => by simp
  | _, .str _, _ => by simp
  | 0, .tup xs, h => by simp [dat] at h
  | 0, .lst xs, h => by simp [dat] at h
  | 0, .dct xs, h => by simp [dat] at h
  | n + 1, .tup xs, h => by simp only [dat] at h ⊢; exact datL_up n xs h
  | n + 1, .lst xs, h => by simp only [dat] at h ⊢; exact datL_up n xs h
  | n + 1, .dct xs, h => by simp only [dat] at h ⊢; exact datK_up n xs h
  | n, .obj _, h => by simp [dat] at h
  | n, .glo _, h => by simp [dat] at h
  | n, .raw _, h => by simp [dat] at h
  | n, .scr _, h => by simp [dat] at h
theorem datL_up : ∀ (n : Nat) (ds : List D), datL n ds = true → datL (n + 1) ds = true
  | _, [], _ => by simp [datL]
  | n, d :: ds, h => by
    simp only [datL, Bool.and_eq_true] at h ⊢
    exact ⟨dat_up n d h.1, datL_up n ds h.2⟩
theorem datK_up : ∀ (n : Nat) (ds : List (D × D)), datK n ds = true → datK (n + 1) ds = true
  | _, [], _ => by simp [datK]
  | n, (k, d) :: ds, h => by
    simp only [datK, Bool.and_eq_true] at h ⊢
    exact ⟨⟨dat_up n k h.1.1, dat_up n d h.1.2⟩, datK_up n ds h.2⟩
end
theorem dat_le {n m : Nat} {d : D} (h : dat n d = true) (hm : n ≤ m) : dat m d = true := by
  induction m with
  | zero =>
    have : n = 0 := by omega
    subst this; exact h
  | succ m ih =>
    by_cases q : n ≤ m
    · exact dat_up m d (ih q)
    · have : n = m + 1 := by omega
      subst this; exact h
/-! ### what isinstance tells -/
def D.isInt : D → Bool
  | .int _ => true
  | _ => false
def D.isTup : D → Bool
  | .tup _ => true
  | _ => false
def D.isStr : D → Bool
  | .str _ => true
  | _ => false
def D.isBl : D → Bool
  | .bl _ => true
  | _ => false
def D.isLst : D → Bool
  | .lst _ => true
  | _ => false
theorem isa_T {d : D} (h : dat 60 d = true) : (d.py.isInt && !d.py.isBool) = d.isInt ∧ d.py.isTuple = d.isTup ∧ d.py.isStr = d.isStr ∧ d.py.isBool = d.isBl ∧ d.py.isList = d.isLst := by
  cases d with
  | obj i => simp [dat] at h
  | glo i => simp [dat] at h
  | raw i => simp [dat] at h
  | scr i => simp [dat] at h
  | _ => simp only [D.py]; exact ⟨rfl, rfl, rfl, rfl, rfl⟩
/-! ### == -/
mutual
/-- without truth values: == tells identity -/
@[simp] def nb : D → Bool
  | .bl _ => false
  | .tup xs => nbL xs
  | .lst xs => nbL xs
  | _ => true
def nbL : List D → Bool
  | [] => true
  | x :: xs => nb x && nbL xs
end
mutual
theorem eqv_self : ∀ (n : Nat) (a : D), shp n a = true → PyData.eqv a.py a.py = true
  | _, .non, _ => by simp [D.py, PyData.eqv]
  | _, .bl _, _ => by simp [D.py, PyData.eqv]
  | _, .int _, _ => by simp [D.py, PyData.eqv]
  | _, .str _, _ => by simp [D.py, PyData.eqv]
  | 0, .tup xs, h => by simp [shp] at h
  | 0, .lst xs, h => by simp [shp] at h
  | n + 1, .tup xs, h => by simp only [shp] at h; simp only [D.py, PyData.eqv]; exact eqvL_self n xs h
  | n + 1, .lst xs, h => by simp only [shp] at h; simp only [D.py, PyData.eqv]; exact eqvL_self n xs h
  | n, .dct _, h => by simp [shp] at h
  | n, .obj _, h => by simp [shp] at h
  | n, .glo _, h => by simp [shp] at h
  | n, .raw _, h => by simp [shp] at h
  | n, .scr _, h => by simp [shp] at h
theorem eqvL_self : ∀ (n : Nat) (a : List D), shpL n a = true → PyData.eqvAll (pyL a) (pyL a) = true
  | _, [], _ => by simp [pyL, PyData.eqvAll]
  | n, d :: ds, h => by
    simp only [shpL, Bool.and_eq_true] at h
    simp only [pyL, PyData.eqvAll, Bool.and_eq_true]
    exact ⟨eqv_self n d h.1, eqvL_self n ds h.2⟩
end
mutual
theorem eqv_eq : ∀ (n m : Nat) (a b : D), shp n a = true → shp m b = true → nb a = true → nb b = true → PyData.eqv a.py b.py = true → a = b
  | n, m, .non, b, _, hb, _, nb', h => by
    cases b with
    | non => rfl
    | obj i => simp [shp] at hb
    | glo i => simp [shp] at hb
    | raw i => simp [shp] at hb
    | scr i => simp [shp] at hb
    | _ => simp [D.py, PyData.eqv] at h
  | n, m, .bl x, b, _, _, na, _, _ => by simp [nb] at na
  | n, m, .int x, b, _, hb, _, nb', h => by
    cases b with
    | int y => simp [D.py, PyData.eqv] at h; rw [h]
    | bl y => simp [nb] at nb'
    | _ => simp [D.py, PyData.eqv] at h
  | n, m, .str x, b, _, hb, _, nb', h => by
    cases b with
    | str y => simp [D.py, PyData.eqv] at h; rw [h]
    | _ => simp [D.py, PyData.eqv] at h
  | n, m, .tup xs, b, ha, hb, na, nb', h => by
    cases b with
    | tup ys =>
      cases n with
      | zero => simp [shp] at ha
      | succ n =>
        cases m with
        | zero => simp [shp] at hb
        | succ m =>
          simp only [shp] at ha hb
          simp only [nb] at na nb'
          simp only [D.py, PyData.eqv] at h
          rw [eqvL_eq n m xs ys ha hb na nb' h]
    | _ => simp [D.py, PyData.eqv] at h
  | n, m, .lst xs, b, ha, hb, na, nb', h => by
    cases b with
    | lst ys =>
      cases n with
      | zero => simp [shp] at ha
      | succ n =>
        cases m with
        | zero => simp [shp] at hb
        | succ m =>
          simp only [shp] at ha hb
          simp only [nb] at na nb'
          simp only [D.py, PyData.eqv] at h
          rw [eqvL_eq n m xs ys ha hb na nb' h]
    | _ => simp [D.py, PyData.eqv] at h
  | n, m, .dct _, b, ha, _, _, _, _ => by simp [shp] at ha
  | n, m, .obj _, b, ha, _, _, _, _ => by simp [shp] at ha
  | n, m, .glo _, b, ha, _, _, _, _ => by simp [shp] at ha
  | n, m, .raw _, b, ha, _, _, _, _ => by simp [shp] at ha
  | n, m, .scr _, b, ha, _, _, _, _ => by simp [shp] at ha
theorem eqvL_eq : ∀ (n m : Nat) (a b : List D), shpL n a = true → shpL m b = true → nbL a = true → nbL b = true → PyData.eqvAll (pyL a) (pyL b) = true → a = b
  | n, m, [], b, _, _, _, _, h => by
    cases b with
    | nil => rfl
    | cons y ys => simp [pyL, PyData.eqvAll] at h
  | n, m, x :: xs, b, ha, hb, na, nb', h => by
    cases b with
    | nil => simp [pyL, PyData.eqvAll] at h
    | cons y ys =>
      simp only [shpL, nbL, Bool.and_eq_true] at ha hb na nb'
      simp only [pyL, PyData.eqvAll, Bool.and_eq_true] at h
      rw [eqv_eq n m x y ha.1 hb.1 na.1 nb'.1 h.1, eqvL_eq n m xs ys ha.2 hb.2 na.2 nb'.2 h.2]
end
theorem eqv_iff {a b : D} (ha : shp 60 a = true) (hb : shp 60 b = true) (na : nb a = true) (nb' : nb b = true) : D.eqv a b = true ↔ a = b :=
  ⟨fun h => eqv_eq 60 60 a b ha hb na nb' h, fun h => by subst h; exact eqv_self 60 a ha⟩
@[simp] theorem eqv_int {i j : Int} : D.eqv (.int i) (.int j) = decide (i = j) := by
  simp only [D.eqv, D.py, PyData.eqv]
  rw [Bool.eq_iff_iff]; simp
@[simp] theorem eqv_str {i j : Str} : D.eqv (.str i) (.str j) = decide (i = j) := by
  simp only [D.eqv, D.py, PyData.eqv]
  rw [Bool.eq_iff_iff]; simp
@[simp] theorem eqv_non_int {j : Int} : D.eqv .non (.int j) = false := by simp [D.eqv, D.py, PyData.eqv]
@[simp] theorem eqv_non : D.eqv .non .non = true := by simp [D.eqv, D.py, PyData.eqv]
@[simp] theorem eqv_int_non {j : Int} : D.eqv (.int j) .non = false := by simp [D.eqv, D.py, PyData.eqv]
@[simp] theorem eqv_bl {i j : Bool} : D.eqv (.bl i) (.bl j) = decide (i = j) := by
  simp only [D.eqv, D.py, PyData.eqv]
  rw [Bool.eq_iff_iff]; simp
/-! ### < of ints -/
@[simp] theorem lt_int' {i j : Int} : D.lt (.int i) (.int j) = decide (i < j) := by simp [D.lt, D.py, PySem.W.dataLt_int]
@[simp] theorem ordOk_int {i j : Int} : ordOk (.int i) (.int j) = true := by simp [ordOk, D.py, PySem.W.alike]
@[simp] theorem ltD_int {i j : Int} : ltD (.int i) (.int j) = some (.bl (decide (i < j))) := by simp [ltD]
@[simp] theorem gtD_int {i j : Int} : gtD (.int i) (.int j) = some (.bl (decide (j < i))) := by simp [gtD]
@[simp] theorem leD_int {i j : Int} : leD (.int i) (.int j) = some (.bl (decide (i ≤ j))) := by
  simp only [leD, ordOk_int, lt_int']
  congr 2
  rw [Bool.eq_iff_iff]; simp
@[simp] theorem geD_int {i j : Int} : geD (.int i) (.int j) = some (.bl (decide (j ≤ i))) := by
  simp only [geD, ordOk_int, lt_int']
  congr 2
  rw [Bool.eq_iff_iff]; simp
@[simp] theorem intsD_ints : ∀ ns : List Int, intsD (ns.map D.int) = some ns
  | [] => rfl
  | n :: ns => by simp [intsD, intsD_ints ns]
/-! ### tuples of ints -/
def tI (l : List Int) : D := .tup (l.map .int)
end Sm


set_option Elab.async false
set_option linter.all false
set_option maxRecDepth 100000
set_option maxHeartbeats 1000000
/-! Pl3: repr tells data apart. -/
namespace Sm
open PySem PySem.Spec L2
/-- an int's signs -/
def txI (i : Int) : List Nat := (toString i).toList.map Char.toNat
mutual
/-- the signs of repr -/
def tx : D → List Nat
  | .non => [78, 111, 110, 101]
  | .bl true => [84, 114, 117, 101]
  | .bl false => [70, 97, 108, 115, 101]
  | .int i => txI i
  | .str x => 39 :: (x.cps.toList ++ [39])
  | .tup [] => [40, 41]
  | .tup [x] => 40 :: (tx x ++ [44, 41])
  | .tup (x :: y :: r) => 40 :: (tx x ++ txW 41 (y :: r))
  | .lst [] => [91, 93]
  | .lst (x :: r) => 91 :: (tx x ++ txW 93 r)
  | .dct [] => [123, 125]
  | .dct ((k, v) :: r) => 123 :: (tx k ++ 58 :: 32 :: (tx v ++ txX r))
  | _ => []
def txW (c : Nat) : List D → List Nat
  | [] => [c]
  | x :: r => 44 :: 32 :: (tx x ++ txW c r)
def txX : List (D × D) → List Nat
  | [] => [125]
  | (k, v) :: r => 44 :: 32 :: (tx k ++ 58 :: 32 :: (tx v ++ txX r))
end
mutual
/-- texts without quotes, signs that are written as they are -/
@[simp] def wrd : D → Bool
  | .str x => decide ((reprText x).cps.toList = 39 :: (x.cps.toList ++ [39])) && !x.cps.toList.contains 39
  | .tup xs => wrdL xs
  | .lst xs => wrdL xs
  | .dct kvs => wrdK kvs
  | .non => true
  | .bl _ => true
  | .int _ => true
  | _ => false
def wrdL : List D → Bool
  | [] => true
  | x :: xs => wrd x && wrdL xs
def wrdK : List (D × D) → Bool
  | [] => true
  | (k, v) :: r => wrd k && wrd v && wrdK r
end
/-! ### splitting -/
theorem split_at {S : Nat → Prop} : ∀ {l1 l2 r1 r2 : List Nat}, (∀ c ∈ l1, S c) → (∀ c ∈ l2, S c) → (∀ c r, r1 = c :: r → ¬ S c) → (∀ c r, r2 = c :: r → ¬ S c) → l1 ++ r1 = l2 ++ r2 → l1 = l2 ∧ r1 = r2
  | [], [], r1, r2, _, _, _, _, h => ⟨rfl, h⟩
  | [], c :: l2, r1, r2, _, h2, h3, _, h => by
    have h : r1 = c :: (l2 ++ r2) := h
    exact absurd (h2 c List.mem_cons_self) (h3 c _ h)
  | c :: l1, [], r1, r2, h1, _, _, h4, h => by
    have h : c :: (l1 ++ r1) = r2 := h
    exact absurd (h1 c List.mem_cons_self) (h4 c _ h.symm)
  | c :: l1, d :: l2, r1, r2, h1, h2, h3, h4, h => by
    have h : c :: (l1 ++ r1) = d :: (l2 ++ r2) := h
    injection h with e h
    obtain ⟨e1, e2⟩ := split_at (fun x hx => h1 x (List.mem_cons_of_mem _ hx)) (fun x hx => h2 x (List.mem_cons_of_mem _ hx)) h3 h4 h
    exact ⟨by rw [e, e1], e2⟩
def isDg (c : Nat) : Prop := c = 45 ∨ (48 ≤ c ∧ c ≤ 57)
theorem txI_dg (i : Int) : ∀ c ∈ txI i, isDg c := fun c hc => by
  obtain ⟨ch, h1, e⟩ := List.mem_map.mp hc
  rcases PyProof.Rows.int_sign i ch h1 with h | h
  · have := PyProof.Rows.digit_range h
    rw [e] at this
    exact .inr this
  · rw [h] at e
    exact .inl (by rw [← e]; decide)
theorem txI_inj {i j : Int} (h : txI i = txI j) : i = j := by
  have hl : (toString i).toList = (toString j).toList := by
    have inj : ∀ (a b : List Char), a.map Char.toNat = b.map Char.toNat → a = b := by
      intro a
      induction a with
      | nil => intro b h; cases b with
        | nil => rfl
        | cons => cases h
      | cons x a ih =>
        intro b h
        cases b with
        | nil => cases h
        | cons y b =>
          simp only [List.map_cons, List.cons.injEq] at h
          rw [Char.toNat_inj.mp h.1, ih b h.2]
    exact inj _ _ h
  have nat : ∀ {a b : Nat}, Nat.toDigits 10 a = Nat.toDigits 10 b → a = b := fun {a b} h => by
    have h1 := Nat.ofDigitChars_toDigits (b := 10) (n := a) (by decide) (by decide)
    have h2 := Nat.ofDigitChars_toDigits (b := 10) (n := b) (by decide) (by decide)
    rw [h] at h1
    exact h1.symm.trans h2
  have nod : ∀ {a : Nat} {l : List Char}, Nat.toDigits 10 a ≠ '-' :: l := fun {a l} h => by
    have := Nat.isDigit_of_mem_toDigits (b := 10) (n := a) (c := '-') (by decide) (by decide) (by rw [h]; exact List.mem_cons_self)
    exact absurd this (by decide)
  have rep : ∀ k : Int, (toString k).toList = if 0 ≤ k then Nat.toDigits 10 k.toNat else '-' :: Nat.toDigits 10 (-k).toNat := fun k => by
    rw [Int.toString_eq_repr, Int.repr_eq_if]
    split
    · rw [Nat.toList_repr]
    · rw [String.toList_append, Nat.toList_repr]; rfl
  rw [rep i, rep j] at hl
  split at hl
  · split at hl
    · have := nat hl; omega
    · exact absurd hl nod
  · split at hl
    · exact absurd hl.symm nod
    · injection hl with _ hl
      have := nat hl; omega
/-- what may follow -/
def Dlm (r : List Nat) : Prop := ∀ c r', r = c :: r' → c = 44 ∨ c = 41 ∨ c = 93 ∨ c = 125 ∨ c = 58
theorem dlm_W {c : Nat} (hc : c = 41 ∨ c = 93) (xs : List D) (r : List Nat) : Dlm (txW c xs ++ r) := fun d r' h => by
  cases xs with
  | nil =>
    simp only [txW, List.cons_append, List.nil_append] at h
    injection h with e _
    subst e
    rcases hc with z | z
    · exact .inr (.inl z)
    · exact .inr (.inr (.inl z))
  | cons x xs =>
    simp only [txW, List.cons_append] at h
    injection h with e _
    exact .inl e.symm
theorem dlm_X (xs : List (D × D)) (r : List Nat) : Dlm (txX xs ++ r) := fun d r' h => by
  cases xs with
  | nil =>
    simp only [txX, List.cons_append, List.nil_append] at h
    injection h with e _
    exact .inr (.inr (.inr (.inl e.symm)))
  | cons x xs =>
    obtain ⟨k, v⟩ := x
    simp only [txX, List.cons_append] at h
    injection h with e _
    exact .inl e.symm
/-- the first sign tells the kind -/
def kd : D → Nat
  | .non => 0
  | .bl true => 1
  | .bl false => 2
  | .int _ => 3
  | .str _ => 4
  | .tup _ => 5
  | .lst _ => 6
  | .dct _ => 7
  | _ => 8
def fs (c : Nat) : Nat := if c = 78 then 0 else if c = 84 then 1 else if c = 70 then 2 else if c = 39 then 4 else if c = 40 then 5 else if c = 91 then 6 else if c = 123 then 7 else if c = 45 ∨ (48 ≤ c ∧ c ≤ 57) then 3 else 9
theorem txI_ne (i : Int) : txI i ≠ [] := fun h => by
  have e : (toString i).toList = [] := List.map_eq_nil_iff.mp h
  have rep : (toString i).toList = if 0 ≤ i then Nat.toDigits 10 i.toNat else '-' :: Nat.toDigits 10 (-i).toNat := by
    rw [Int.toString_eq_repr, Int.repr_eq_if]
    split
    · rw [Nat.toList_repr]
    · rw [String.toList_append, Nat.toList_repr]; rfl
  rw [rep] at e
  split at e
  · have h1 := Nat.length_toDigits_pos (b := 10) (n := i.toNat)
    rw [e] at h1
    exact absurd h1 (by decide)
  · cases e
theorem tx_head (d : D) (h : wrd d = true) : ∃ c r, tx d = c :: r ∧ fs c = kd d := by
  cases d with
  | non => exact ⟨_, _, by simp only [tx] <;> rfl, rfl⟩
  | bl b => cases b <;> exact ⟨_, _, by simp only [tx] <;> rfl, rfl⟩
  | int i =>
    simp only [tx]
    cases q : txI i with
    | nil => exact absurd q (txI_ne i)
    | cons c r =>
      refine ⟨c, r, rfl, ?_⟩
      have := txI_dg i c (by rw [q]; exact List.mem_cons_self)
      unfold isDg at this
      unfold fs kd
      rw [if_neg (by omega), if_neg (by omega), if_neg (by omega), if_neg (by omega), if_neg (by omega), if_neg (by omega), if_neg (by omega), if_pos this]
  | str x => exact ⟨_, _, by simp only [tx] <;> rfl, rfl⟩
  | tup xs =>
    match xs with
    | [] => exact ⟨_, _, by simp only [tx] <;> rfl, rfl⟩
    | [x] => exact ⟨_, _, by simp only [tx] <;> rfl, rfl⟩
    | x :: y :: r => exact ⟨_, _, by simp only [tx] <;> rfl, rfl⟩
  | lst xs =>
    match xs with
    | [] => exact ⟨_, _, by simp only [tx] <;> rfl, rfl⟩
    | x :: r => exact ⟨_, _, by simp only [tx] <;> rfl, rfl⟩
  | dct xs =>
    match xs with
    | [] => exact ⟨_, _, by simp only [tx] <;> rfl, rfl⟩
    | (k, v) :: r => exact ⟨_, _, by simp only [tx] <;> rfl, rfl⟩
  | _ => simp [wrd] at h
theorem kd_eq {a b : D} {r1 r2 : List Nat} (ha : wrd a = true) (hb : wrd b = true) (h : tx a ++ r1 = tx b ++ r2) : kd a = kd b := by
  obtain ⟨c, r, e1, k1⟩ := tx_head a ha
  obtain ⟨c', r', e2, k2⟩ := tx_head b hb
  rw [e1, e2] at h
  injection h with e _
  rw [← k1, ← k2, e]
/-- no thing's text begins with a delimiter -/
theorem tx_nd {d : D} {c : Nat} {r r' : List Nat} (h : wrd d = true) (hc : c = 44 ∨ c = 41 ∨ c = 93 ∨ c = 125 ∨ c = 58 ∨ c = 32) (e : tx d ++ r = c :: r') : False := by
  obtain ⟨x, r2, e1, k1⟩ := tx_head d h
  rw [e1] at e
  injection e with e _
  subst e
  have h9 : fs x = 9 := by
    rcases hc with z | z | z | z | z | z <;> (rw [z]; rfl)
  rw [h9] at k1
  cases d with
  | bl b => cases b <;> cases k1
  | _ => cases k1

theorem app3 {a b c : List Nat} {x : Nat} : (x :: (a ++ b)) ++ c = x :: (a ++ (b ++ c)) := by simp
theorem dlm_c {c : Nat} {r : List Nat} (h : c = 44 ∨ c = 41 ∨ c = 93 ∨ c = 125 ∨ c = 58) : Dlm (c :: r) := fun d r' e => by
  injection e with e _
  rw [← e]; exact h
mutual
theorem tx_inj : ∀ (a b : D) (r1 r2 : List Nat), wrd a = true → wrd b = true → Dlm r1 → Dlm r2 → tx a ++ r1 = tx b ++ r2 → a = b ∧ r1 = r2
  | .non, b, r1, r2, ha, hb, d1, d2, h => by
    have q := kd_eq ha hb h
    cases b with
    | non => simp only [tx] at h; exact ⟨rfl, List.append_cancel_left h⟩
    | bl i => cases i <;> cases q
    | _ => cases q
  | .bl true, b, r1, r2, ha, hb, d1, d2, h => by
    have q := kd_eq ha hb h
    cases b with
    | bl i =>
      cases i with
      | true => simp only [tx] at h; exact ⟨rfl, List.append_cancel_left h⟩
      | false => cases q
    | _ => cases q
  | .bl false, b, r1, r2, ha, hb, d1, d2, h => by
    have q := kd_eq ha hb h
    cases b with
    | bl i =>
      cases i with
      | false => simp only [tx] at h; exact ⟨rfl, List.append_cancel_left h⟩
      | true => cases q
    | _ => cases q
  | .int i, b, r1, r2, ha, hb, d1, d2, h => by
    have q := kd_eq ha hb h
    cases b with
    | bl i => cases i <;> cases q
    | int j =>
      simp only [tx] at h
      have nd : ∀ {r : List Nat}, Dlm r → ∀ c r', r = c :: r' → ¬ isDg c := fun {r} d c r' e z => by
        have := d c r' e
        unfold isDg at z
        omega
      obtain ⟨e1, e2⟩ := split_at (S := isDg) (txI_dg i) (txI_dg j) (nd d1) (nd d2) h
      exact ⟨by rw [txI_inj e1], e2⟩
    | _ => cases q
  | .str x, b, r1, r2, ha, hb, d1, d2, h => by
    have q := kd_eq ha hb h
    cases b with
    | bl i => cases i <;> cases q
    | str y =>
      simp only [tx] at h
      rw [app3, app3] at h
      injection h with _ h
      have no : ∀ {z : Str}, wrd (.str z) = true → ∀ c ∈ z.cps.toList, c ≠ 39 := fun {z} hz c hc e => by
        simp only [wrd, Bool.and_eq_true, Bool.not_eq_true'] at hz
        have := hz.2
        rw [List.contains_eq_mem, decide_eq_false_iff_not] at this
        exact this (e ▸ hc)
      have nd : ∀ (r : List Nat) c r', [39] ++ r = c :: r' → ¬ (c ≠ 39) := fun r c r' e z => by
        injection e with e _
        exact z e.symm
      obtain ⟨e1, e2⟩ := split_at (S := fun c => c ≠ 39) (no ha) (no hb) (nd r1) (nd r2) h
      have e3 : x = y := by
        cases x; cases y
        simp only at e1
        exact congrArg Str.mk (Array.toList_inj.mp e1)
      exact ⟨by rw [e3], List.append_cancel_left e2⟩
    | _ => cases q
  | .tup [], b, r1, r2, ha, hb, d1, d2, h => by
    have q := kd_eq ha hb h
    cases b with
    | bl i => cases i <;> cases q
    | tup ys =>
      match ys with
      | [] => simp only [tx] at h; exact ⟨rfl, List.append_cancel_left h⟩
      | [y] =>
        simp only [tx] at h
        rw [app3] at h
        injection h with _ h
        simp only [wrd, wrdL, Bool.and_true] at hb
        exact (tx_nd (r' := r1) hb (.inr (.inl rfl)) h.symm).elim
      | y :: z :: r =>
        simp only [tx] at h
        rw [app3] at h
        injection h with _ h
        simp only [wrd, wrdL, Bool.and_eq_true] at hb
        exact (tx_nd (r' := r1) hb.1 (.inr (.inl rfl)) h.symm).elim
    | _ => cases q
  | .tup [x], b, r1, r2, ha, hb, d1, d2, h => by
    have q := kd_eq ha hb h
    simp only [wrd, wrdL, Bool.and_true] at ha
    cases b with
    | bl i => cases i <;> cases q
    | tup ys =>
      match ys with
      | [] =>
        simp only [tx] at h
        rw [app3] at h
        injection h with _ h
        exact (tx_nd (r' := r2) ha (.inr (.inl rfl)) h).elim
      | [y] =>
        simp only [tx] at h
        rw [app3, app3] at h
        injection h with _ h
        simp only [wrd, wrdL, Bool.and_true] at hb
        obtain ⟨e1, e2⟩ := tx_inj x y ([44, 41] ++ r1) ([44, 41] ++ r2) ha hb (dlm_c (.inl rfl)) (dlm_c (.inl rfl)) h
        exact ⟨by rw [e1], List.append_cancel_left e2⟩
      | y :: z :: r =>
        simp only [tx] at h
        rw [app3, app3] at h
        injection h with _ h
        simp only [wrd, wrdL, Bool.and_eq_true] at hb
        obtain ⟨e1, e2⟩ := tx_inj x y _ _ ha hb.1 (dlm_c (.inl rfl)) (dlm_W (.inl rfl) _ _) h
        simp only [txW, List.cons_append] at e2
        injection e2 with _ e2
        injection e2 with e2 _
        cases e2
    | _ => cases q
  | .tup (x :: y :: xs), b, r1, r2, ha, hb, d1, d2, h => by
    have q := kd_eq ha hb h
    have ha' := ha
    simp only [wrd, wrdL, Bool.and_eq_true] at ha
    cases b with
    | bl i => cases i <;> cases q
    | tup ys =>
      match ys with
      | [] =>
        simp only [tx] at h
        rw [app3] at h
        injection h with _ h
        exact (tx_nd (r' := r2) ha.1 (.inr (.inl rfl)) h).elim
      | [y'] =>
        simp only [tx] at h
        rw [app3, app3] at h
        injection h with _ h
        simp only [wrd, wrdL, Bool.and_true] at hb
        obtain ⟨e1, e2⟩ := tx_inj x y' _ _ ha.1 hb (dlm_W (.inl rfl) _ _) (dlm_c (.inl rfl)) h
        simp only [txW, List.cons_append] at e2
        injection e2 with _ e2
        injection e2 with e2 _
        cases e2
      | x' :: y' :: ys =>
        simp only [tx] at h
        rw [app3, app3] at h
        injection h with _ h
        have hb' := hb
        simp only [wrd, wrdL, Bool.and_eq_true] at hb
        obtain ⟨e1, e2⟩ := tx_inj x x' _ _ ha.1 hb.1 (dlm_W (.inl rfl) _ _) (dlm_W (.inl rfl) _ _) h
        obtain ⟨e3, e4⟩ := txW_inj 41 (y :: xs) (y' :: ys) r1 r2 (.inl rfl) (by simp only [wrdL, Bool.and_eq_true]; exact ha.2) (by simp only [wrdL, Bool.and_eq_true]; exact hb.2) d1 d2 e2
        exact ⟨by rw [e1, e3], e4⟩
    | _ => cases q
  | .lst [], b, r1, r2, ha, hb, d1, d2, h => by
    have q := kd_eq ha hb h
    cases b with
    | bl i => cases i <;> cases q
    | lst ys =>
      match ys with
      | [] => simp only [tx] at h; exact ⟨rfl, List.append_cancel_left h⟩
      | y :: r =>
        simp only [tx] at h
        rw [app3] at h
        injection h with _ h
        simp only [wrd, wrdL, Bool.and_eq_true] at hb
        exact (tx_nd (r' := r1) hb.1 (.inr (.inr (.inl rfl))) h.symm).elim
    | _ => cases q
  | .lst (x :: xs), b, r1, r2, ha, hb, d1, d2, h => by
    have q := kd_eq ha hb h
    simp only [wrd, wrdL, Bool.and_eq_true] at ha
    cases b with
    | bl i => cases i <;> cases q
    | lst ys =>
      match ys with
      | [] =>
        simp only [tx] at h
        rw [app3] at h
        injection h with _ h
        exact (tx_nd (r' := r2) ha.1 (.inr (.inr (.inl rfl))) h).elim
      | y :: ys =>
        simp only [tx] at h
        rw [app3, app3] at h
        injection h with _ h
        simp only [wrd, wrdL, Bool.and_eq_true] at hb
        obtain ⟨e1, e2⟩ := tx_inj x y _ _ ha.1 hb.1 (dlm_W (.inr rfl) _ _) (dlm_W (.inr rfl) _ _) h
        obtain ⟨e3, e4⟩ := txW_inj 93 xs ys r1 r2 (.inr rfl) ha.2 hb.2 d1 d2 e2
        exact ⟨by rw [e1, e3], e4⟩
    | _ => cases q
  | .dct [], b, r1, r2, ha, hb, d1, d2, h => by
    have q := kd_eq ha hb h
    cases b with
    | bl i => cases i <;> cases q
    | dct ys =>
      match ys with
      | [] => simp only [tx] at h; exact ⟨rfl, List.append_cancel_left h⟩
      | (k, v) :: r =>
        simp only [tx] at h
        rw [app3] at h
        injection h with _ h
        simp only [wrd, wrdK, Bool.and_eq_true] at hb
        exact (tx_nd (r' := r1) hb.1.1 (.inr (.inr (.inr (.inl rfl)))) h.symm).elim
    | _ => cases q
  | .dct ((k, v) :: xs), b, r1, r2, ha, hb, d1, d2, h => by
    have q := kd_eq ha hb h
    simp only [wrd, wrdK, Bool.and_eq_true] at ha
    cases b with
    | bl i => cases i <;> cases q
    | dct ys =>
      match ys with
      | [] =>
        simp only [tx] at h
        rw [app3] at h
        injection h with _ h
        exact (tx_nd (r' := r2) ha.1.1 (.inr (.inr (.inr (.inl rfl)))) h).elim
      | (k', v') :: ys =>
        simp only [tx] at h
        rw [app3, app3] at h
        injection h with _ h
        simp only [wrd, wrdK, Bool.and_eq_true] at hb
        obtain ⟨e1, e2⟩ := tx_inj k k' (58 :: 32 :: (tx v ++ (txX xs ++ r1))) (58 :: 32 :: (tx v' ++ (txX ys ++ r2))) ha.1.1 hb.1.1 (dlm_c (.inr (.inr (.inr (.inr rfl))))) (dlm_c (.inr (.inr (.inr (.inr rfl))))) (by simpa only [List.cons_append, List.append_assoc] using h)
        injection e2 with _ e2
        injection e2 with _ e2
        obtain ⟨e3, e4⟩ := tx_inj v v' _ _ ha.1.2 hb.1.2 (dlm_X _ _) (dlm_X _ _) e2
        obtain ⟨e5, e6⟩ := txX_inj xs ys r1 r2 ha.2 hb.2 d1 d2 e4
        exact ⟨by rw [e1, e3, e5], e6⟩
    | _ => cases q
  | .obj _, b, r1, r2, ha, _, _, _, _ => by simp [wrd] at ha
  | .glo _, b, r1, r2, ha, _, _, _, _ => by simp [wrd] at ha
  | .raw _, b, r1, r2, ha, _, _, _, _ => by simp [wrd] at ha
  | .scr _, b, r1, r2, ha, _, _, _, _ => by simp [wrd] at ha
theorem txW_inj : ∀ (c : Nat) (a b : List D) (r1 r2 : List Nat), (c = 41 ∨ c = 93) → wrdL a = true → wrdL b = true → Dlm r1 → Dlm r2 → txW c a ++ r1 = txW c b ++ r2 → a = b ∧ r1 = r2
  | c, [], b, r1, r2, hc, ha, hb, d1, d2, h => by
    cases b with
    | nil => simp only [txW] at h; exact ⟨rfl, List.append_cancel_left h⟩
    | cons y ys =>
      simp only [txW, List.cons_append, List.nil_append] at h
      injection h with e _
      omega
  | c, x :: xs, b, r1, r2, hc, ha, hb, d1, d2, h => by
    cases b with
    | nil =>
      simp only [txW, List.cons_append, List.nil_append] at h
      injection h with e _
      omega
    | cons y ys =>
      simp only [wrdL, Bool.and_eq_true] at ha hb
      simp only [txW, List.cons_append, List.append_assoc, List.cons.injEq, true_and] at h
      obtain ⟨e1, e2⟩ := tx_inj x y _ _ ha.1 hb.1 (dlm_W hc _ _) (dlm_W hc _ _) h
      obtain ⟨e3, e4⟩ := txW_inj c xs ys r1 r2 hc ha.2 hb.2 d1 d2 e2
      exact ⟨by rw [e1, e3], e4⟩
theorem txX_inj : ∀ (a b : List (D × D)) (r1 r2 : List Nat), wrdK a = true → wrdK b = true → Dlm r1 → Dlm r2 → txX a ++ r1 = txX b ++ r2 → a = b ∧ r1 = r2
  | [], b, r1, r2, ha, hb, d1, d2, h => by
    cases b with
    | nil => simp only [txX] at h; exact ⟨rfl, List.append_cancel_left h⟩
    | cons y ys =>
      obtain ⟨k, v⟩ := y
      simp only [txX, List.cons_append, List.nil_append] at h
      injection h with e _
      omega
  | (k, v) :: xs, b, r1, r2, ha, hb, d1, d2, h => by
    cases b with
    | nil =>
      simp only [txX, List.cons_append, List.nil_append] at h
      injection h with e _
      omega
    | cons y ys =>
      obtain ⟨k', v'⟩ := y
      simp only [wrdK, Bool.and_eq_true] at ha hb
      simp only [txX, List.cons_append, List.append_assoc, List.cons.injEq, true_and] at h
      obtain ⟨e1, e2⟩ := tx_inj k k' _ _ ha.1.1 hb.1.1 (dlm_c (.inr (.inr (.inr (.inr rfl))))) (dlm_c (.inr (.inr (.inr (.inr rfl))))) h
      simp only [List.cons_append, List.append_assoc, List.cons.injEq, true_and] at e2
      obtain ⟨e3, e4⟩ := tx_inj v v' _ _ ha.1.2 hb.1.2 (dlm_X _ _) (dlm_X _ _) e2
      obtain ⟨e5, e6⟩ := txX_inj xs ys r1 r2 ha.2 hb.2 d1 d2 e4
      exact ⟨by rw [e1, e3, e5], e6⟩
end
end Sm


set_option Elab.async false
set_option linter.all false
set_option maxRecDepth 100000
set_option maxHeartbeats 1000000
/-! Pl4: the library's repr text is tx. -/
namespace Sm
open PySem PySem.Spec L2
abbrev cl (x : Str) : List Nat := x.cps.toList
theorem cl_app (a b : Str) : cl (a ++ b) = cl a ++ cl b := PyProof.Rows.cps_toList_append a b
theorem cl_of (s : String) : cl (Str.ofString s) = s.toList.map Char.toNat := PyProof.Rows.signs_ofString s
def jw (c : Nat) : List (List Nat) → List Nat
  | [] => [c]
  | t :: r => 44 :: 32 :: (t ++ jw c r)
theorem txW_jw (c : Nat) : ∀ xs : List D, txW c xs = jw c (xs.map tx)
  | [] => by simp [txW, jw]
  | x :: xs => by simp [txW, jw, txW_jw c xs]
theorem cl_join (c : Nat) : ∀ (ts : List Str) (t : Str), cl (Str.join ", " (t :: ts)) ++ [c] = cl t ++ jw c (ts.map cl)
  | [], t => by rw [PyProof.Rows.join_one]; rfl
  | u :: ts, t => by
    rw [PyProof.Rows.join_cons_cons, cl_app, cl_app, List.append_assoc, List.append_assoc, cl_join c ts u]
    have : cl (", " : Str) = [44, 32] := by rw [cl_of]; rfl
    rw [this]
    simp [jw]
theorem cl_from (c : Nat) : ∀ (ts : List Str) (k : Nat) (acc : Str), cl (textFrom (k + 1) acc ts) ++ [c] = cl acc ++ jw c (ts.map cl)
  | [], k, acc => rfl
  | t :: ts, k, acc => by
    show cl (textFrom (k + 1 + 1) (acc ++ (if k + 1 > 0 then ", " else "" : String) ++ t) ts) ++ [c] = _
    rw [cl_from c ts (k + 1), cl_app, cl_app, if_pos (Nat.succ_pos k)]
    have : cl (Str.ofString ", ") = [44, 32] := by rw [cl_of]; rfl
    rw [this]
    simp [jw]
theorem cl_list : ∀ ts : List Str, cl (listText ts) = (match ts with | [] => [91, 93] | t :: r => 91 :: (cl t ++ jw 93 (r.map cl)))
  | [] => by
    unfold listText
    rw [cl_app]
    have e1 : cl (Str.ofString "]") = [93] := by rw [cl_of]; rfl
    have e2 : cl (textFrom 0 (Str.ofString "[") []) = [91] := by show cl (Str.ofString "[") = _; rw [cl_of]; rfl
    rw [e1, e2]; rfl
  | t :: r => by
    unfold listText
    rw [cl_app]
    have e1 : cl (Str.ofString "]") = [93] := by rw [cl_of]; rfl
    rw [e1]
    show cl (textFrom (0 + 1) (Str.ofString "[" ++ (if 0 > 0 then ", " else "" : String) ++ t) r) ++ [93] = _
    rw [cl_from 93 r 0, cl_app, cl_app]
    have e3 : cl (Str.ofString "[") = [91] := by rw [cl_of]; rfl
    have e4 : cl ((if 0 > 0 then ", " else "" : String) : Str) = [] := by rw [if_neg (by decide), cl_of]; rfl
    rw [e3, e4]
    simp
theorem cl_tuple : ∀ ts : List Str, cl (tupleText ts) = (match ts with | [] => [40, 41] | [t] => 40 :: (cl t ++ [44, 41]) | t :: u :: r => 40 :: (cl t ++ jw 41 ((u :: r).map cl)))
  | [] => by
    unfold tupleText
    rw [cl_app, cl_app]
    have e1 : cl (Str.ofString "(") = [40] := by rw [cl_of]; rfl
    have e2 : cl (Str.join ", " []) = [] := rfl
    have e3 : cl ((if ([] : List Str).length == 1 then ",)" else ")" : String) : Str) = [41] := by
      show cl (Str.ofString ")") = _
      rw [cl_of]; rfl
    rw [e1, e2, e3]; rfl
  | [t] => by
    unfold tupleText
    rw [cl_app, cl_app, PyProof.Rows.join_one]
    have e1 : cl (Str.ofString "(") = [40] := by rw [cl_of]; rfl
    have e3 : cl ((if [t].length == 1 then ",)" else ")" : String) : Str) = [44, 41] := by
      show cl (Str.ofString ",)") = _
      rw [cl_of]; rfl
    rw [e1, e3]; simp
  | t :: u :: r => by
    unfold tupleText
    rw [cl_app, cl_app]
    have e1 : cl (Str.ofString "(") = [40] := by rw [cl_of]; rfl
    have e3 : cl ((if (t :: u :: r).length == 1 then ",)" else ")" : String) : Str) = [41] := by
      have : ((t :: u :: r).length == 1) = false := by simp
      rw [this]
      show cl (Str.ofString ")") = _
      rw [cl_of]; rfl
    rw [e1, e3, List.append_assoc, cl_join 41 (u :: r) t]; rfl
theorem cl_dict : ∀ ts : List Str, cl (dictText ts) = (match ts with | [] => [123, 125] | t :: r => 123 :: (cl t ++ jw 125 (r.map cl)))
  | [] => by
    unfold dictText
    rw [cl_app, cl_app]
    have e1 : cl (Str.ofString "{") = [123] := by rw [cl_of]; rfl
    have e2 : cl (Str.join ", " []) = [] := rfl
    have e3 : cl (Str.ofString "}") = [125] := by rw [cl_of]; rfl
    rw [e1, e2, e3]; rfl
  | t :: r => by
    unfold dictText
    rw [cl_app, cl_app]
    have e1 : cl (Str.ofString "{") = [123] := by rw [cl_of]; rfl
    have e3 : cl (Str.ofString "}") = [125] := by rw [cl_of]; rfl
    rw [e1, e3, List.append_assoc, cl_join 125 r t]; rfl
mutual
theorem shown_tx : ∀ d : D, wrd d = true → cl d.py.shown = tx d
  | .non, _ => by simp only [D.py, PyData.shown, tx]; rw [cl_of]; rfl
  | .bl true, _ => by simp only [D.py, PyData.shown, tx]; show cl (Str.ofString "True") = _; rw [cl_of]; rfl
  | .bl false, _ => by simp only [D.py, PyData.shown, tx]; show cl (Str.ofString "False") = _; rw [cl_of]; rfl
  | .int i, _ => by simp only [D.py, PyData.shown, tx, txI]; rw [cl_of]
  | .str x, h => by
    simp only [wrd, Bool.and_eq_true, decide_eq_true_eq] at h
    simp only [D.py, PyData.shown, tx]
    exact h.1
  | .tup xs, h => by
    simp only [wrd] at h
    have e := shownL_tx xs h
    simp only [D.py, PyData.shown]
    rw [cl_tuple]
    match xs, e with
    | [], _ => simp [pyL, PyData.shownAll, tx]
    | [x], e =>
      simp only [pyL, PyData.shownAll, List.map_cons, List.map_nil, List.cons.injEq, and_true] at e
      simp only [pyL, PyData.shownAll, tx]
      rw [e]
    | x :: y :: r, e =>
      simp only [pyL, PyData.shownAll, List.map_cons, List.cons.injEq] at e
      simp only [pyL, PyData.shownAll, tx, List.map_cons]
      rw [e.1, e.2.1, e.2.2, txW_jw]
      rfl
  | .lst xs, h => by
    simp only [wrd] at h
    have e := shownL_tx xs h
    simp only [D.py, PyData.shown]
    rw [cl_list]
    match xs, e with
    | [], _ => simp [pyL, PyData.shownAll, tx]
    | x :: r, e =>
      simp only [pyL, PyData.shownAll, List.map_cons, List.cons.injEq] at e
      simp only [pyL, PyData.shownAll, tx]
      rw [e.1, e.2, txW_jw]
  | .dct kvs, h => by
    simp only [wrd] at h
    simp only [D.py, PyData.shown]
    rw [cl_dict]
    match kvs, h with
    | [], _ => simp [pyK, PyData.shownKv, tx]
    | (k, v) :: r, h =>
      have h' := h
      simp only [wrdK, Bool.and_eq_true] at h
      have e1 := shown_tx k h.1.1
      have e2 := shown_tx v h.1.2
      have e3 := shownK_tx r h.2
      have c : cl (Str.ofString ": ") = [58, 32] := by rw [cl_of]; rfl
      simp only [pyK, PyData.shownKv, tx]
      rw [cl_app, cl_app, e1, e2, c, e3]
      simp
  | .obj _, h => by simp [wrd] at h
  | .glo _, h => by simp [wrd] at h
  | .raw _, h => by simp [wrd] at h
  | .scr _, h => by simp [wrd] at h
theorem shownL_tx : ∀ xs : List D, wrdL xs = true → (PyData.shownAll (pyL xs)).map cl = xs.map tx
  | [], _ => by simp [pyL, PyData.shownAll]
  | x :: xs, h => by
    simp only [wrdL, Bool.and_eq_true] at h
    simp only [pyL, PyData.shownAll, List.map_cons]
    rw [shown_tx x h.1, shownL_tx xs h.2]
theorem shownK_tx : ∀ xs : List (D × D), wrdK xs = true → jw 125 ((PyData.shownKv (pyK xs)).map cl) = txX xs
  | [], _ => by simp [pyK, PyData.shownKv, jw, txX]
  | (k, v) :: xs, h => by
    simp only [wrdK, Bool.and_eq_true] at h
    have c : cl (Str.ofString ": ") = [58, 32] := by rw [cl_of]; rfl
    simp only [pyK, PyData.shownKv, List.map_cons, jw, txX]
    rw [cl_app, cl_app, shown_tx k h.1.1, shown_tx v h.1.2, c, shownK_tx xs h.2]
    simp
end
/-- repr tells data apart -/
theorem shown_inj {a b : D} (ha : wrd a = true) (hb : wrd b = true) : a.py.shown = b.py.shown ↔ a = b := by
  refine ⟨fun h => ?_, fun h => by rw [h]⟩
  have e : tx a = tx b := by rw [← shown_tx a ha, ← shown_tx b hb, h]
  have nil : Dlm [] := fun c r' e => by cases e
  exact (tx_inj a b [] [] ha hb nil nil (by rw [List.append_nil, List.append_nil]; exact e)).1
end Sm


set_option Elab.async false
set_option linter.all false
set_option maxRecDepth 100000
set_option maxHeartbeats 1000000
/-! Pl5: when repr runs; how long it is. -/
namespace Sm
open PySem PySem.Spec L2
mutual
/-- a bound of the length of repr; ints below 2 ^ 62 -/
def wt : D → Nat
  | .non => 4
  | .bl _ => 5
  | .int _ => 20
  | .str x => x.length + 2
  | .tup xs => 3 + wtL xs
  | .lst xs => 3 + wtL xs
  | .dct kvs => 3 + wtK kvs
  | _ => 0
def wtL : List D → Nat
  | [] => 0
  | x :: xs => wt x + 2 + wtL xs
def wtK : List (D × D) → Nat
  | [] => 0
  | (k, v) :: xs => wt k + wt v + 4 + wtK xs
end
mutual
/-- all its ints lie between -2 ^ 62 and 2 ^ 62 -/
@[simp] def smI : D → Bool
  | .int i => decide (-(2 ^ 62) < i ∧ i < 2 ^ 62)
  | .tup xs => smIL xs
  | .lst xs => smIL xs
  | .dct kvs => smIK kvs
  | _ => true
def smIL : List D → Bool
  | [] => true
  | x :: xs => smI x && smIL xs
def smIK : List (D × D) → Bool
  | [] => true
  | (k, v) :: xs => smI k && smI v && smIK xs
end
theorem digits_len : ∀ (k n : Nat), n < 10 ^ k → 0 < k → (Nat.toDigits 10 n).length ≤ k := fun k n h hk => by
  rw [Nat.length_toDigits_le_iff (by decide) hk]
  exact h
theorem txI_len {i : Int} (h : -(2 ^ 62) < i ∧ i < 2 ^ 62) : (txI i).length ≤ 20 := by
  unfold txI
  rw [List.length_map, Int.toString_eq_repr, Int.repr_eq_if]
  have e : (10 : Nat) ^ 19 = 10000000000000000000 := by decide
  split
  · rw [Nat.toList_repr]
    have := digits_len 19 i.toNat (by rw [e]; omega) (by decide)
    omega
  · rw [String.toList_append, Nat.toList_repr, List.length_append]
    have := digits_len 19 (-i).toNat (by rw [e]; omega) (by decide)
    have e2 : ("-" : String).toList.length = 1 := rfl
    omega
mutual
theorem tx_len : ∀ d : D, smI d = true → (tx d).length ≤ wt d
  | .non, _ => by simp [tx, wt]
  | .bl true, _ => by simp [tx, wt]
  | .bl false, _ => by simp [tx, wt]
  | .int i, h => by
    simp only [smI, decide_eq_true_eq] at h
    simp only [tx, wt]
    exact txI_len h
  | .str x, _ => by simp [tx, wt, Str.length]
  | .tup [], _ => by simp [tx, wt, wtL]
  | .tup [x], h => by
    simp only [smI, smIL, Bool.and_true] at h
    have := tx_len x h
    simp [tx, wt, wtL]
    omega
  | .tup (x :: y :: r), h => by
    simp only [smI, smIL, Bool.and_eq_true] at h
    have h1 := tx_len x h.1
    have h2 := txW_len 41 (y :: r) (by simp only [smIL, Bool.and_eq_true]; exact h.2)
    simp only [tx, wt, wtL, List.length_cons, List.length_append] at h2 ⊢
    omega
  | .lst [], _ => by simp [tx, wt, wtL]
  | .lst (x :: r), h => by
    simp only [smI, smIL, Bool.and_eq_true] at h
    have h1 := tx_len x h.1
    have h2 := txW_len 93 r h.2
    simp only [tx, wt, wtL, List.length_cons, List.length_append] at h2 ⊢
    omega
  | .dct [], _ => by simp [tx, wt, wtK]
  | .dct ((k, v) :: r), h => by
    simp only [smI, smIK, Bool.and_eq_true] at h
    have h1 := tx_len k h.1.1
    have h2 := tx_len v h.1.2
    have h3 := txX_len r h.2
    simp only [tx, wt, wtK, List.length_cons, List.length_append] at h3 ⊢
    omega
  | .obj _, _ => by simp [tx]
  | .glo _, _ => by simp [tx]
  | .raw _, _ => by simp [tx]
  | .scr _, _ => by simp [tx]
theorem txW_len : ∀ (c : Nat) (xs : List D), smIL xs = true → (txW c xs).length ≤ 1 + wtL xs
  | c, [], _ => by simp [txW, wtL]
  | c, x :: xs, h => by
    simp only [smIL, Bool.and_eq_true] at h
    have h1 := tx_len x h.1
    have h2 := txW_len c xs h.2
    simp only [txW, wtL, List.length_cons, List.length_append] at h2 ⊢
    omega
theorem txX_len : ∀ xs : List (D × D), smIK xs = true → (txX xs).length ≤ 1 + wtK xs
  | [], _ => by simp [txX, wtK]
  | (k, v) :: xs, h => by
    simp only [smIK, Bool.and_eq_true] at h
    have h1 := tx_len k h.1.1
    have h2 := tx_len v h.1.2
    have h3 := txX_len xs h.2
    simp only [txX, wtK, List.length_cons, List.length_append] at h3 ⊢
    omega
end
mutual
theorem show_ok : ∀ d : D, smI d = true → d.py.showable = true
  | .non, _ => by simp [D.py, PyData.showable]
  | .bl _, _ => by simp [D.py, PyData.showable]
  | .int i, h => by
    simp only [smI, decide_eq_true_eq] at h
    simp only [D.py, PyData.showable, decide_eq_true_eq]
    by_cases z : i.natAbs = 0
    · rw [z]; decide
    · rw [Nat.log2_lt z]
      have : (2 : Nat) ^ 62 ≤ 2 ^ 1920 := Nat.pow_le_pow_right (by decide) (by decide)
      omega
  | .str _, _ => by simp [D.py, PyData.showable]
  | .tup xs, h => by simp only [smI] at h; simp only [D.py, PyData.showable]; exact showL_ok xs h
  | .lst xs, h => by simp only [smI] at h; simp only [D.py, PyData.showable]; exact showL_ok xs h
  | .dct xs, h => by simp only [smI] at h; simp only [D.py, PyData.showable]; exact showK_ok xs h
  | .obj _, _ => by simp [D.py, PyData.showable]
  | .glo _, _ => by simp [D.py, PyData.showable]
  | .raw _, _ => by simp [D.py, PyData.showable]
  | .scr _, _ => by simp [D.py, PyData.showable]
theorem showL_ok : ∀ xs : List D, smIL xs = true → PyData.showableAll (pyL xs) = true
  | [], _ => by simp [pyL, PyData.showableAll]
  | x :: xs, h => by
    simp only [smIL, Bool.and_eq_true] at h
    simp only [pyL, PyData.showableAll, Bool.and_eq_true]
    exact ⟨show_ok x h.1, showL_ok xs h.2⟩
theorem showK_ok : ∀ xs : List (D × D), smIK xs = true → PyData.showableKv (pyK xs) = true
  | [], _ => by simp [pyK, PyData.showableKv]
  | (k, v) :: xs, h => by
    simp only [smIK, Bool.and_eq_true] at h
    simp only [pyK, PyData.showableKv, Bool.and_eq_true]
    exact ⟨⟨show_ok k h.1.1, show_ok v h.1.2⟩, showK_ok xs h.2⟩
end
/-- data whose repr is told apart and fits -/
structure Rok (d : D) : Prop where
  w : wrd d = true
  t : dat 60 d = true
  s : smI d = true
  l : wt d ≤ line
theorem rep_ok {d : D} (h : Rok d) : repD d = some (.str d.py.shown) := by
  unfold repD
  have e : d.py.shown.length = (tx d).length := by
    rw [← shown_tx d h.w]; simp [Str.length]
  rw [if_pos]
  simp only [Bool.and_eq_true, decide_eq_true_eq]
  refine ⟨⟨h.t, show_ok d h.s⟩, ?_⟩
  rw [e]
  exact Nat.le_trans (tx_len d h.s) h.l
theorem eqD_rep {a b : D} (ha : Rok a) (hb : Rok b) [Decidable (a = b)] : eqD (.str a.py.shown) (.str b.py.shown) = some (.bl (decide (a = b))) := by
  simp only [eqD, shp_str, Bool.and_self, eqv_str]
  congr 2
  rw [Bool.eq_iff_iff, decide_eq_true_eq, decide_eq_true_eq]
  exact shown_inj ha.w hb.w
theorem neD_rep {a b : D} (ha : Rok a) (hb : Rok b) [Decidable (a = b)] : neD (.str a.py.shown) (.str b.py.shown) = some (.bl (!decide (a = b))) := by
  have := eqD_rep ha hb
  simp only [eqD, neD, shp_str, Bool.and_self, eqv_str] at this ⊢
  simpa using this
/-! ### folds over lists -/
@[simp] theorem wrdL_all : ∀ xs : List D, wrdL xs = xs.all wrd
  | [] => by simp [wrdL]
  | x :: xs => by simp [wrdL, wrdL_all xs]
@[simp] theorem smIL_all : ∀ xs : List D, smIL xs = xs.all smI
  | [] => by simp [smIL]
  | x :: xs => by simp [smIL, smIL_all xs]
@[simp] theorem nbL_all : ∀ xs : List D, nbL xs = xs.all nb
  | [] => by simp [nbL]
  | x :: xs => by simp [nbL, nbL_all xs]
theorem wtL_le {B : Nat} : ∀ xs : List D, (∀ x ∈ xs, wt x ≤ B) → wtL xs ≤ (B + 2) * xs.length
  | [], _ => by simp [wtL]
  | x :: xs, h => by
    have h1 := h x List.mem_cons_self
    have h2 := wtL_le xs fun y hy => h y (List.mem_cons_of_mem _ hy)
    simp only [wtL, List.length_cons, Nat.mul_add]
    omega
end Sm


set_option Elab.async false
set_option linter.all false
set_option maxRecDepth 100000
set_option maxHeartbeats 2000000
/-! Pl6: plain tools: operators on ints, indices. -/
namespace Sm
open PySem PySem.Spec L2
@[simp] theorem ixN_u (n : Nat) (i : Int) : ixN n i = if 0 ≤ i then (if i < n then some i.toNat else none) else if -(n : Int) ≤ i then some (i + n).toNat else none := rfl
theorem small_of {i : Int} (h : -(2 ^ 64) < i ∧ i < 2 ^ 64) : small i = true := by unfold small; exact decide_eq_true h
theorem mulA_r {i j : Int} (h : -(2 ^ 64) < j ∧ j < 2 ^ 64) : mulA (.int i) (.int j) = some (.int (i * j)) := by
  show (if mulOk i j = true then some (D.int (i * j)) else none).or _ = _
  rw [if_pos (by unfold mulOk; rw [small_of h]; simp [ixD, atI, absD, intD, lenD, tupD, listD, sumD, lotD])]; rfl
theorem mulA_l {i j : Int} (h : -(2 ^ 64) < i ∧ i < 2 ^ 64) : mulA (.int i) (.int j) = some (.int (i * j)) := by
  show (if mulOk i j = true then some (D.int (i * j)) else none).or _ = _
  rw [if_pos (by unfold mulOk; rw [small_of h]; simp [ixD, atI, absD, intD, lenD, tupD, listD, sumD, lotD])]; rfl
@[simp] theorem addA_int {i j : Int} : addA (.int i) (.int j) = some (.int (i + j)) := rfl
@[simp] theorem subD_int {i j : Int} : subD (.int i) (.int j) = some (.int (i - j)) := rfl
theorem modD_int {i j : Int} (h : 0 < j) : modD (.int i) (.int j) = some (.int (i % j)) := by
  show (if j = 0 then none else some (D.int (i.fmod j))) = _
  rw [if_neg (by omega), Int.fmod_eq_emod_of_nonneg i (by omega)]
theorem fdivD_int {i j : Int} (h : 0 < j) (h2 : j < 1073741824) : fdivD (.int i) (.int j) = some (.int (i / j)) := by
  show (if 0 < j ∧ j.natAbs.log2 < 9000 ∨ (j ≠ 0 ∧ j.natAbs < 1073741824) then some (D.int (i.fdiv j)) else none) = _
  rw [if_pos (.inr ⟨by omega, by omega⟩), Int.fdiv_eq_ediv_of_nonneg i (by omega)]
@[simp] theorem eqD_int {i j : Int} : eqD (.int i) (.int j) = some (.bl (decide (i = j))) := by simp [eqD]
@[simp] theorem neD_int {i j : Int} : neD (.int i) (.int j) = some (.bl (!decide (i = j))) := by simp [neD]
@[simp] theorem eqD_str {i j : Str} : eqD (.str i) (.str j) = some (.bl (decide (i = j))) := by simp [eqD]
@[simp] theorem neD_str {i j : Str} : neD (.str i) (.str j) = some (.bl (!decide (i = j))) := by simp [neD]
/-- the hand: cells, place, rest, mixed, turns -/
def hnd (cs : List Int) (a b s c : Int) : List D := [.lst (cs.map .int), .int a, .int b, .int s, .int c]
structure Hok (h : List D) : Prop where
  ex : ∃ (cs : List Int) (a b s c : Int), h = hnd cs a b s c ∧ (∀ x ∈ cs, 0 ≤ x) ∧ 0 ≤ a ∧ 0 ≤ b ∧ 0 ≤ s ∧ 0 ≤ c ∧ cs.length ≤ 63
theorem mulA_mod {x m j : Int} (h : 0 < m ∧ m < 4611686018427387904) : mulA (.int (x % m)) (.int j) = some (.int (x % m * j)) := by
  have h1 := Int.emod_nonneg x (b := m) (by omega)
  have h2 := Int.emod_lt_of_pos x (b := m) h.1
  exact mulA_l (by omega)
def drawT : Tx := (tAnd' (tV (eBin (pur eqD) (eBin ixD (eVar 0) (eC (.int 2))) (eC (.int 0)))) (tV (eBin (pur ltD) (eBin ixD (eVar 0) (eC (.int 1))) (eFn (g1 fun d => lift (lenD d)) (lCons (eBin ixD (eVar 0) (eC (.int 0))) lNil)))))
def drawU : Sx := (sSeq (sSet 2 (eBin ixD (eBin ixD (eVar 0) (eC (.int 0))) (eBin ixD (eVar 0) (eC (.int 1))))) (sSeq (sSetAt 0 (eC (.int 1)) (eBin (pur addA) (eBin ixD (eVar 0) (eC (.int 1))) (eC (.int 1)))) (sSeq (sSetAt 0 (eC (.int 3)) (eBin (pur modD) (eFn (g1 fun d => lift (intD d)) (lCons (eBin (pur addA) (eBin (pur addA) (eBin (pur mulA) (eBin ixD (eVar 0) (eC (.int 3))) (eC (.int 48271))) (eBin (pur mulA) (eVar 2) (eC (.int 5)))) (eC (.int 29))) lNil)) (eC (.int 2147483587)))) (sSetAt 0 (eC (.int 2)) (eIf (tV (eBin (pur geD) (eVar 2) (eBin (pur powD) (eC (.int 10)) (eC (.int 18))))) (eVar 2) (eC (.int 0)))))))
def drawR : Sx := (sSeq (sIf (tV (eBin (pur gtD) (eBin ixD (eVar 0) (eC (.int 2))) (eC (.int 0)))) (sSeq (sSet 3 (eBin (pur modD) (eFn (g1 fun d => lift (intD d)) (lCons (eBin ixD (eVar 0) (eC (.int 2))) lNil)) (eVar 1))) (sSeq (sSetAt 0 (eC (.int 2)) (eBin (pur fdivD) (eBin ixD (eVar 0) (eC (.int 2))) (eVar 1))) (sRet (eVar 3)))) sNil) (sSeq (sSetAt 0 (eC (.int 4)) (eBin (pur addA) (eBin ixD (eVar 0) (eC (.int 4))) (eC (.int 1)))) (sSeq (sSet 4 (eBin (pur modD) (eFn (g1 fun d => lift (intD d)) (lCons (eBin (pur mulA) (eFn (g1 fun d => lift (intD d)) (lCons (eBin (pur addA) (eBin ixD (eVar 0) (eC (.int 3))) (eBin (pur mulA) (eC (.int 7877)) (eBin ixD (eVar 0) (eC (.int 4))))) lNil)) (eC (.int 69621))) lNil)) (eC (.int 2147483647)))) (sSeq (sSet 4 (eBin (pur modD) (eFn (g1 fun d => lift (intD d)) (lCons (eBin (pur mulA) (eVar 4) (eBin (pur addA) (eBin (pur fdivD) (eVar 4) (eC (.int 1103))) (eC (.int 40692)))) lNil)) (eC (.int 2147483399)))) (sSeq (sSet 4 (eBin (pur modD) (eFn (g1 fun d => lift (intD d)) (lCons (eBin (pur mulA) (eVar 4) (eBin (pur addA) (eBin (pur fdivD) (eVar 4) (eC (.int 2311))) (eC (.int 48271)))) lNil)) (eC (.int 2147483629)))) (sRet (eBin (pur modD) (eFn (g1 fun d => lift (intD d)) (lCons (eBin (pur fdivD) (eVar 4) (eC (.int 16))) lNil)) (eVar 1))))))))
def drawM : Sx := sSeq (sIf drawT drawU sNil) drawR

def fin : Fl → M D := fun f => match f with
  | .rt d => ret d
  | .nx _ => ret .non
theorem rest_ok {e : En} {cs : List Int} {a b s c many : Int} (e0 : e 0 = some (false, .obj 0)) (e1 : e 1 = some (false, .int many)) (hc : ∀ x ∈ cs, 0 ≤ x) (ha : 0 ≤ a) (hb : 0 ≤ b) (hs : 0 ≤ s) (hcc : 0 ≤ c) (h1 : 1 ≤ many) (h2 : many < 1073741824) (hl : cs.length ≤ 63) :
    ∃ r h', bnd (drawR e) fin [hnd cs a b s c] = .ok (.int r) [h'] ∧ 0 ≤ r ∧ r < many ∧ Hok h' := by
  have q1 : ∀ {i : Int}, modD (.int i) (.int many) = some (.int (i % many)) := fun {i} => modD_int (by omega)
  have q2 : ∀ {i : Int}, fdivD (.int i) (.int many) = some (.int (i / many)) := fun {i} => fdivD_int (by omega) h2
  by_cases hb0 : 0 < b
  · refine ⟨b % many, hnd cs a (b / many) s c, ?_, Int.emod_nonneg _ (by omega), Int.emod_lt_of_pos _ (by omega), ⟨⟨cs, a, b / many, s, c, rfl, hc, ha, Int.ediv_nonneg (by omega) (by omega), hs, hcc, hl⟩⟩⟩
    have : ¬ b = 0 := by omega
    simp [ixD, atI, absD, intD, lenD, tupD, listD, sumD, lotD, drawR, hnd, this, hb0, e0, e1, q1, q2, fin]
  · have hbz : b = 0 := by omega
    subst hbz
    refine ⟨_, hnd cs a 0 s (c + 1), by simp [ixD, atI, absD, intD, lenD, tupD, listD, sumD, lotD, drawR, hnd, e0, e1, q1, q2, mulA_r, mulA_l, modD_int, fdivD_int, mulA_mod, fin]; rfl, Int.emod_nonneg _ (by omega), Int.emod_lt_of_pos _ (by omega), ⟨⟨cs, a, 0, s, c + 1, rfl, hc, ha, by omega, hs, by omega, hl⟩⟩⟩
theorem pow18 : powD (.int 10) (.int 18) = some (.int 1000000000000000000) := by
  show (if (0 : Int) ≤ 18 ∧ (18 : Int) ≤ 1000000 ∧ (10 : Int).natAbs < 2 ^ 64 then some (D.int (10 ^ (18 : Int).toNat)) else none) = _
  rw [if_pos (by decide)]
  rfl
theorem draw_ok {h : List D} (hh : Hok h) {many : Int} (h1 : 1 ≤ many) (h2 : many < 1073741824) : ∃ r h', callS .froz drawM [.obj 0, .int many] [h] = .ok (.int r) [h'] ∧ 0 ≤ r ∧ r < many ∧ Hok h' := by
  obtain ⟨cs, a, b, s, c, rfl, hc, ha, hb, hs, hcc, hl⟩ := hh.ex
  have start : ∀ {e : En} {st1 : Store}, sIf drawT drawU sNil (env0 [.obj 0, .int many]) [hnd cs a b s c] = .ok (.nx e) st1 → callS .froz drawM [.obj 0, .int many] [hnd cs a b s c] = bnd (drawR e) fin st1 := fun {e st1} q => by
    show bnd (bnd (sIf drawT drawU sNil (env0 [.obj 0, .int many])) _) _ _ = _
    simp only [bnd_ok', q]
    rfl
  by_cases hif : b = 0 ∧ a < cs.length
  · obtain ⟨rfl, hlt⟩ := hif
    obtain ⟨j, rfl⟩ : ∃ j : Nat, a = j := ⟨a.toNat, by omega⟩
    have hj : j < cs.length := by omega
    have hx := hc cs[j] (List.getElem_mem hj)
    have r1 : ∃ e, e 0 = some (false, .obj 0) ∧ e 1 = some (false, .int many) ∧ sIf drawT drawU sNil (env0 [.obj 0, .int many]) [hnd cs j 0 s c] = .ok (.nx e) [hnd cs (j + 1) (if 1000000000000000000 ≤ cs[j] then cs[j] else 0) ((s * 48271 + cs[j] * 5 + 29) % 2147483587) c] := by
      refine ⟨(env0 [.obj 0, .int many]).put 2 false (.int cs[j]), by simp [ixD, atI, absD, intD, lenD, tupD, listD, sumD, lotD], by simp [ixD, atI, absD, intD, lenD, tupD, listD, sumD, lotD], ?_⟩
      by_cases z : 1000000000000000000 ≤ cs[j]
      · simp [ixD, atI, absD, intD, lenD, tupD, listD, sumD, lotD, drawT, drawU, hnd, hj, mulA_r, mulA_l, modD_int, pow18, z]
      · simp [ixD, atI, absD, intD, lenD, tupD, listD, sumD, lotD, drawT, drawU, hnd, hj, mulA_r, mulA_l, modD_int, pow18, z]
    obtain ⟨e, e0, e1, q⟩ := r1
    rw [start q]
    exact rest_ok e0 e1 hc (by omega) (by split <;> omega) (Int.emod_nonneg _ (by decide)) hcc h1 h2 hl
  · have r1 : sIf drawT drawU sNil (env0 [.obj 0, .int many]) [hnd cs a b s c] = .ok (.nx (env0 [.obj 0, .int many])) [hnd cs a b s c] := by
      by_cases hb0 : b = 0
      · have : ¬ a < cs.length := fun z => hif ⟨hb0, z⟩
        subst hb0
        simp [ixD, atI, absD, intD, lenD, tupD, listD, sumD, lotD, drawT, hnd, this]
      · simp [ixD, atI, absD, intD, lenD, tupD, listD, sumD, lotD, drawT, hnd, hb0]
    rw [start r1]
    exact rest_ok (by simp [ixD, atI, absD, intD, lenD, tupD, listD, sumD, lotD]) (by simp [ixD, atI, absD, intD, lenD, tupD, listD, sumD, lotD]) hc ha hb hs hcc h1 h2 hl
@[simp] theorem lenD_tup {xs : List D} : lenD (.tup xs) = some (.int xs.length) := rfl
@[simp] theorem lenD_lst {xs : List D} : lenD (.lst xs) = some (.int xs.length) := rfl
@[simp] theorem lenD_scr {xs : List D} : lenD (.scr xs) = some (.int xs.length) := rfl
@[simp] theorem tupD_tup {xs : List D} : tupD (.tup xs) = some (.tup xs) := rfl
@[simp] theorem tupD_lst {xs : List D} : tupD (.lst xs) = some (.tup xs) := rfl
@[simp] theorem listD_tup {xs : List D} : listD (.tup xs) = some (.lst xs) := rfl
@[simp] theorem listD_lst {xs : List D} : listD (.lst xs) = some (.lst xs) := rfl
@[simp] theorem absD_int {i : Int} : absD (.int i) = some (.int (if i < 0 then -i else i)) := rfl
@[simp] theorem intD_int {i : Int} : intD (.int i) = some (.int i) := rfl
@[simp] theorem intD_bl {b : Bool} : intD (.bl b) = some (.int (if b then 1 else 0)) := rfl
@[simp] theorem sumD_lst {ns : List Int} : sumD (.lst (ns.map .int)) = some (.int ns.sum) := by simp [sumD, lotD]
@[simp] theorem sumD_tup {ns : List Int} : sumD (.tup (ns.map .int)) = some (.int ns.sum) := by simp [sumD, lotD]
@[simp] theorem lenD_tI {m : List Int} : lenD (tI m) = some (.int m.length) := by simp [tI]
@[simp] theorem sumD_tI {m : List Int} : sumD (tI m) = some (.int m.sum) := sumD_tup
@[simp] theorem seqD_tI {m : List Int} : seqD (tI m) = some (m.map .int) := rfl
@[simp] theorem ixD_tI {m : List Int} {i : Int} : ixD (tI m) (.int i) = lift (L2.atI (m.map .int) i) := rfl
@[simp] theorem seqD_lst {xs : List D} : seqD (.lst xs) = some xs := rfl
@[simp] theorem seqD_tup {xs : List D} : seqD (.tup xs) = some xs := rfl
@[simp] theorem ixD_tup {xs : List D} {i : Int} : ixD (.tup xs) (.int i) = lift (L2.atI xs i) := rfl
@[simp] theorem ixD_lst {xs : List D} {i : Int} : ixD (.lst xs) (.int i) = lift (L2.atI xs i) := rfl
@[simp] theorem ixD_scr {xs : List D} {i : Int} : ixD (.scr xs) (.int i) = lift (L2.atI xs i) := rfl
@[simp] theorem atI_0 {α : Type} {a : α} {r : List α} : atI (a :: r) 0 = some a := by simp [atI, ixN]
@[simp] theorem atI_1 {α : Type} {a b : α} {r : List α} : atI (a :: b :: r) 1 = some b := by
  have : (1 : Int) < (r.length : Int) + 1 + 1 := by omega
  simp [atI, ixN, this]
@[simp] theorem atI_2 {α : Type} {a b c : α} {r : List α} : atI (a :: b :: c :: r) 2 = some c := by
  have : (2 : Int) < (r.length : Int) + 1 + 1 + 1 := by omega
  simp [atI, ixN, this]
theorem atI_ok {α : Type} (d : α) {xs : List α} {x : Int} (h : 0 ≤ x ∧ x < xs.length) : atI xs x = some (xs.getD x.toNat d) := by
  obtain ⟨k, rfl⟩ : ∃ k : Nat, x = k := ⟨x.toNat, by omega⟩
  have hk : k < xs.length := by omega
  simp [atI, ixN, hk]
end Sm


set_option Elab.async false
set_option linter.all false
set_option maxRecDepth 100000
set_option maxHeartbeats 2000000
/-! Pl7: plain tools: all, any, comprehensions' answers, loops. -/
namespace Sm
open PySem PySem.Spec L2
theorem trL_bls : ∀ bs : List Bool, trL (bs.map D.bl) = some bs
  | [] => rfl
  | b :: bs => by simp [trL, trD, trL_bls bs]
theorem trL_ints : ∀ ns : List Int, trL (ns.map D.int) = some (ns.map (· != 0))
  | [] => rfl
  | n :: ns => by simp [trL, trD, trL_ints ns]
theorem shpL_bls (n : Nat) (bs : List Bool) : shpL n (bs.map D.bl) = true := by rw [shpL_all]; simp
theorem shpL_ints (n : Nat) (ns : List Int) : shpL n (ns.map D.int) = true := by rw [shpL_all]; simp
@[simp] theorem allD_p {α : Type} (xs : List α) (p : α → Bool) : allD (.lst (xs.map fun x => .bl (p x))) = some (.bl (xs.all p)) := by
  have e : (xs.map fun x => D.bl (p x)) = (xs.map p).map D.bl := by simp
  unfold allD
  rw [e]
  show (if shpL 60 ((xs.map p).map D.bl) = true then (trL ((xs.map p).map D.bl)).map (fun bs => D.bl (bs.all id)) else none) = _
  rw [if_pos (shpL_bls _ _), trL_bls]
  simp [List.all_map]
@[simp] theorem anyD_p {α : Type} (xs : List α) (p : α → Bool) : anyD (.lst (xs.map fun x => .bl (p x))) = some (.bl (xs.any p)) := by
  have e : (xs.map fun x => D.bl (p x)) = (xs.map p).map D.bl := by simp
  unfold anyD
  rw [e]
  show (if shpL 60 ((xs.map p).map D.bl) = true then (trL ((xs.map p).map D.bl)).map (fun bs => D.bl (bs.any id)) else none) = _
  rw [if_pos (shpL_bls _ _), trL_bls]
  simp [List.any_map]
theorem anyD_ints (ns : List Int) : anyD (.tup (ns.map .int)) = some (.bl (ns.any (· != 0))) := by
  unfold anyD
  show (if shpL 60 (ns.map D.int) = true then (trL (ns.map D.int)).map (fun bs => D.bl (bs.any id)) else none) = _
  rw [if_pos (shpL_ints _ _), trL_ints]
  simp [List.any_map, Function.comp_def]
/-- between -/
def inR (lo hi : Int) : D → Bool
  | .int i => decide (lo ≤ i ∧ i ≤ hi)
  | _ => false
theorem inR_all {lo hi : Int} : ∀ {xs : List D}, xs.all (inR lo hi) = true → ∃ ns : List Int, xs = ns.map .int ∧ ∀ n ∈ ns, lo ≤ n ∧ n ≤ hi
  | [], _ => ⟨[], rfl, fun n h => by cases h⟩
  | x :: xs, h => by
    rw [List.all_cons, Bool.and_eq_true] at h
    obtain ⟨ns, e, hn⟩ := inR_all h.2
    cases x with
    | int i =>
      refine ⟨i :: ns, by rw [e]; rfl, fun n hm => ?_⟩
      rcases List.mem_cons.mp hm with z | z
      · rw [z]; exact of_decide_eq_true h.1
      · exact hn n z
    | _ => exact absurd h.1 (by simp [inR])
theorem all_inR {lo hi : Int} {ns : List Int} (h : ∀ n ∈ ns, lo ≤ n ∧ n ≤ hi) : (ns.map D.int).all (inR lo hi) = true := by
  rw [List.all_map, List.all_eq_true]
  exact fun n hn => decide_eq_true (h n hn)
theorem cut1 {α : Type} (xs : List α) : cut xs (some 1) none = xs.drop 1 := by
  unfold cut
  have e : HT.sIx xs.length 0 (some 1) = min 1 xs.length := HT.sIx_nat xs.length 0 1
  rw [e, HT.sIx_none]
  cases xs with
  | nil => rfl
  | cons x xs => simp
theorem cut_to {α : Type} (xs : List α) (k : Nat) : cut xs none (some (k : Int)) = xs.take k := by
  unfold cut
  rw [HT.sIx_none, HT.sIx_nat]
  simp only [List.drop_zero, Nat.sub_zero]
  by_cases h : k ≤ xs.length
  · rw [Nat.min_eq_left h]
  · rw [Nat.min_eq_right (by omega), List.take_of_length_le (Nat.le_refl _), List.take_of_length_le (by omega)]
theorem cut_from {α : Type} (xs : List α) (k : Nat) : cut xs (some (k : Int)) none = xs.drop k := by
  unfold cut
  rw [HT.sIx_none, HT.sIx_nat]
  by_cases h : k ≤ xs.length
  · rw [Nat.min_eq_left h, List.take_of_length_le (by rw [List.length_drop]; exact Nat.le_refl _)]
  · rw [Nat.min_eq_right (by omega), List.drop_of_length_le (Nat.le_refl _), List.drop_of_length_le (by omega)]
    simp
@[simp] theorem enumD0_map {α : Type} (f : α → D) (xs : List α) : enumD 0 (xs.map f) = xs.zipIdx.map fun p => .tup [.int (p.2 : Nat), f p.1] := enumD_map f xs 0
theorem iZip_eq {a b : Ex} {env : En} {st : Store} {x y : D} {xs ys : List D} (ha : a env st = .ok x st) (hb : b env st = .ok y st) (hx : seqD x = some xs) (hy : seqD y = some ys) : iZipS a b env st = .ok (zipD xs ys) st := by
  unfold iZipS
  rw [bnd_eq ha, bnd_eq hb, hx, hy]
  rfl
theorem iEnum_eq {a : Ex} {env : En} {st : Store} {x : D} {xs : List D} (ha : a env st = .ok x st) (hx : seqD x = some xs) : iEnumS a env st = .ok (enumD 0 xs) st := by
  unfold iEnumS
  rw [bnd_eq ha, hx]
  rfl
theorem iSeq_eq {a : Ex} {env : En} {st st1 : Store} {x : D} {xs : List D} (ha : a env st = .ok x st1) (hx : seqD x = some xs) : iSeq a env st = .ok xs st1 := by
  unfold iSeq
  rw [bnd_eq ha, hx]
  rfl
theorem sm62_of {n : Nat} (h : n < 100000) : sm62 (n : Int) = true := by
  unfold sm62
  rw [decide_eq_true_eq]
  have e : (2 : Int) ^ 62 = 4611686018427387904 := by decide
  rw [e]
  omega
theorem iRng_eq {a : Ex} {env : En} {st st1 : Store} {n : Nat} (ha : a env st = .ok (.int (n : Int)) st1) (h : n < 100000) : iRng1S a env st = .ok ((List.range n).map fun i => .int (i : Nat)) st1 := by
  unfold iRng1S
  rw [bnd_eq ha]
  show lift (if sm62 (n : Int) = true then some (rngD 0 n) else none) st1 = _
  rw [if_pos (sm62_of h)]
  simp [rngD]
theorem toLine {n : Nat} (h : n ≤ 100000) : n ≤ line := Nat.le_trans h (by decide)
end Sm


set_option Elab.async false
set_option linter.all false
set_option maxRecDepth 100000
set_option maxHeartbeats 2000000
/-! Pl8: plain tools: loops with an invariant. -/
namespace Sm
open PySem PySem.Spec L2
theorem forS_run {g : Gx} {b : Sx} {I : Nat → En → Store → Prop} : ∀ (ds : List D) (k : Nat) (env : En) (st : Store), I k env st →
    (∀ (i : Nat) (d : D) (e : En) (s : Store), ds[i]? = some d → I (k + i) e s → ∃ e1 e2 s2, g d e = some e1 ∧ b e1 s = .ok (.nx e2) s2 ∧ I (k + i + 1) e2 s2) →
    ∃ e' s', forS g b ds env st = .ok (.nx e') s' ∧ I (k + ds.length) e' s'
  | [], k, env, st, h, _ => ⟨env, st, rfl, h⟩
  | d :: ds, k, env, st, h, step => by
    obtain ⟨e1, e2, s2, h1, h2, h3⟩ := step 0 d env st rfl h
    obtain ⟨e', s', h4, h5⟩ := forS_run ds (k + 1) e2 s2 h3 fun i d' e s hd hi => by
      have := step (i + 1) d' e s (by simpa using hd) (by rw [show k + (i + 1) = k + 1 + i by omega]; exact hi)
      rw [show k + (i + 1) + 1 = k + 1 + i + 1 by omega] at this
      exact this
    refine ⟨e', s', ?_, by rw [List.length_cons, show k + (ds.length + 1) = k + 1 + ds.length by omega]; exact h5⟩
    unfold forS
    simp only [h1]
    rw [bnd_eq h2]
    exact h4
theorem sFor_run {it : Lx} {g : Gx} {b : Sx} {env : En} {st st1 : Store} {I : Nat → En → Store → Prop} (ds : List D) (hi : it env st = .ok ds st1) (h0 : I 0 env st1)
    (step : ∀ (i : Nat) (d : D) (e : En) (s : Store), ds[i]? = some d → I i e s → ∃ e1 e2 s2, g d e = some e1 ∧ b e1 s = .ok (.nx e2) s2 ∧ I (i + 1) e2 s2) :
    ∃ e' s', sFor it g b env st = .ok (.nx e') s' ∧ I ds.length e' s' := by
  obtain ⟨e', s', h1, h2⟩ := forS_run (g := g) (b := b) (I := I) ds 0 env st1 h0 fun i d e s hd hI => by rw [Nat.zero_add] at *; exact step i d e s hd hI
  refine ⟨e', s', ?_, by rw [Nat.zero_add] at h2; exact h2⟩
  unfold sFor
  rw [bnd_eq hi]
  exact h1
theorem lcS_run {g : Gx} {t : Tx} {m : Ex} {env : En} {I : Nat → List D → Store → Prop} : ∀ (ds : List D) (k : Nat) (acc : List D) (st : Store), I k acc st →
    (∀ (i : Nat) (d : D) (a : List D) (s : Store), ds[i]? = some d → I (k + i) a s → ∃ e1 c s1, g d env = some e1 ∧ t e1 s = .ok c s1 ∧ (c = true → ∃ y s2, m e1 s1 = .ok y s2 ∧ I (k + i + 1) (a ++ [y]) s2) ∧ (c = false → I (k + i + 1) a s1)) →
    ∃ ys s', lcS g t m ds env st = .ok ys s' ∧ I (k + ds.length) (acc ++ ys) s'
  | [], k, acc, st, h, _ => ⟨[], st, rfl, by rw [List.append_nil]; exact h⟩
  | d :: ds, k, acc, st, h, step => by
    obtain ⟨e1, c, s1, h1, h2, h3, h4⟩ := step 0 d acc st rfl h
    have nxt : ∀ (acc : List D) (s : Store), I (k + 1) acc s → ∃ ys s', lcS g t m ds env s = .ok ys s' ∧ I (k + 1 + ds.length) (acc ++ ys) s' := fun acc s hI =>
      lcS_run ds (k + 1) acc s hI fun i d' a s hd hi => by
        have := step (i + 1) d' a s (by simpa using hd) (by rw [show k + (i + 1) = k + 1 + i by omega]; exact hi)
        rw [show k + (i + 1) + 1 = k + 1 + i + 1 by omega] at this
        exact this
    rw [List.length_cons, show k + (ds.length + 1) = k + 1 + ds.length by omega]
    unfold lcS
    simp only [h1]
    cases c with
    | true =>
      obtain ⟨y, s2, h5, h6⟩ := h3 rfl
      obtain ⟨ys, s', h7, h8⟩ := nxt _ _ h6
      refine ⟨y :: ys, s', ?_, by rw [List.append_cons]; exact h8⟩
      rw [bnd_eq h2, if_pos rfl, bnd_eq h5, bnd_eq h7]
      rfl
    | false =>
      obtain ⟨ys, s', h7, h8⟩ := nxt _ _ (h4 rfl)
      refine ⟨ys, s', ?_, h8⟩
      rw [bnd_eq h2, if_neg (by simp)]
      exact h7
/-- a comprehension that draws -/
theorem eLc_run {vs : List Nat} {it : Lx} {g : Gx} {t : Tx} {m : Ex} {env : En} {st st1 : Store} {I : Nat → List D → Store → Prop} (ds : List D) (hi : it env st = .ok ds st1) (hl : ds.length ≤ 100000) (h0 : I 0 [] st1)
    (step : ∀ (i : Nat) (d : D) (a : List D) (s : Store), ds[i]? = some d → I i a s → ∃ e1 c s1, g d (env.clr vs) = some e1 ∧ t e1 s = .ok c s1 ∧ (c = true → ∃ y s2, m e1 s1 = .ok y s2 ∧ I (i + 1) (a ++ [y]) s2) ∧ (c = false → I (i + 1) a s1)) :
    ∃ ys s', eLc vs it g t m env st = .ok (.lst ys) s' ∧ I ds.length ys s' := by
  obtain ⟨ys, s', h1, h2⟩ := lcS_run (g := g) (t := t) (m := m) (env := env.clr vs) (I := I) ds 0 [] st1 h0 fun i d a s hd hI => by rw [Nat.zero_add] at *; exact step i d a s hd hI
  refine ⟨ys, s', ?_, by rw [Nat.zero_add] at h2; exact h2⟩
  unfold eLc
  rw [bnd_eq hi, if_pos (toLine hl)]
  unfold quiet
  rw [bnd_eq h1]
  rfl
theorem sSeq_eq {a b : Sx} {env e1 : En} {st st1 : Store} (h : a env st = .ok (.nx e1) st1) : sSeq a b env st = b e1 st1 := by
  unfold sSeq
  rw [bnd_eq h]
theorem sSeq_rt {a b : Sx} {env : En} {st st1 : Store} {d : D} (h : a env st = .ok (.rt d) st1) : sSeq a b env st = .ok (.rt d) st1 := by
  unfold sSeq
  rw [bnd_eq h]
  rfl
theorem sSet_eq {i : Nat} {m : Ex} {env : En} {st st1 : Store} {d : D} (h : m env st = .ok d st1) : sSet i m env st = .ok (.nx (env.put i false d)) st1 := by
  unfold sSet
  rw [bnd_eq h]
  rfl
theorem sOwn_eq {i : Nat} {m : Ex} {env : En} {st st1 : Store} {d : D} (h : m env st = .ok d st1) : sOwn i m env st = .ok (.nx (env.put i true d)) st1 := by
  unfold sOwn
  rw [bnd_eq h]
  rfl
theorem sRet_eq {m : Ex} {env : En} {st st1 : Store} {d : D} (h : m env st = .ok d st1) : sRet m env st = .ok (.rt d) st1 := by
  unfold sRet
  rw [bnd_eq h]
  rfl
theorem sDrop_eq {m : Ex} {env : En} {st st1 : Store} {d : D} (h : m env st = .ok d st1) : sDrop m env st = .ok (.nx env) st1 := by
  unfold sDrop
  rw [bnd_eq h]
  rfl
theorem sIf_eq {t : Tx} {a b : Sx} {env : En} {st st1 : Store} {c : Bool} (h : t env st = .ok c st1) : sIf t a b env st = (if c = true then a env else b env) st1 := by
  unfold sIf
  rw [bnd_eq h]
theorem sIf_no {t : Tx} {a : Sx} {env : En} {st st1 : Store} (h : t env st = .ok false st1) : sIf t a sNil env st = .ok (.nx env) st1 := by
  rw [sIf_eq h, if_neg (by simp)]
  rfl
theorem callS_rt {m : Sx} {ds : List D} {st st1 : Store} {d : D} (h : m (env0 ds) st = .ok (.rt d) st1) : callS .froz m ds st = .ok d st1 := by
  unfold callS
  rw [bnd_eq h]
  rfl
theorem callS_nx {m : Sx} {ds : List D} {st st1 : Store} {e : En} (h : m (env0 ds) st = .ok (.nx e) st1) : callS .froz m ds st = .ok .non st1 := by
  unfold callS
  rw [bnd_eq h]
  rfl
theorem callS_frt {m : Sx} {ds : List D} {st st1 : Store} {d : D} (h : m (env0 ds) st = .ok (.rt d) st1) : callS .fresh m ds st = .ok d st1 := by
  unfold callS
  rw [bnd_eq h]
  rfl
theorem tV_eq {m : Ex} {env : En} {st st1 : Store} {b : Bool} (h : m env st = .ok (.bl b) st1) : tV m env st = .ok b st1 := by
  unfold tV
  rw [bnd_eq h]
  rfl
theorem tNot_eq {t : Tx} {env : En} {st st1 : Store} {b : Bool} (h : t env st = .ok b st1) : tNot' t env st = .ok (!b) st1 := by
  unfold tNot'
  rw [bnd_eq h]
  rfl
theorem tOr_no {t u : Tx} {env : En} {st st1 : Store} (h : t env st = .ok false st1) : tOr' t u env st = u env st1 := by
  unfold tOr'
  rw [bnd_eq h, if_neg (by simp)]
theorem tOr_yes {t u : Tx} {env : En} {st st1 : Store} (h : t env st = .ok true st1) : tOr' t u env st = .ok true st1 := by
  unfold tOr'
  rw [bnd_eq h, if_pos rfl]
  rfl
theorem fn1 {F : Fx} {a : Ex} {env : En} {st st1 : Store} {x : D} (h : a env st = .ok x st1) : eFn F (lCons a lNil) env st = F [x] st1 := by
  unfold eFn lCons
  simp [h]
theorem fn2 {F : Fx} {a b : Ex} {env : En} {st st1 st2 : Store} {x y : D} (h : a env st = .ok x st1) (h2 : b env st1 = .ok y st2) : eFn F (lCons a (lCons b lNil)) env st = F [x, y] st2 := by
  unfold eFn lCons
  simp [h, h2]
theorem fn3 {F : Fx} {a b c : Ex} {env : En} {st st1 st2 st3 : Store} {x y z : D} (h : a env st = .ok x st1) (h2 : b env st1 = .ok y st2) (h3 : c env st2 = .ok z st3) : eFn F (lCons a (lCons b (lCons c lNil))) env st = F [x, y, z] st3 := by
  unfold eFn lCons
  simp [h, h2, h3]
theorem fn4 {F : Fx} {a b c d : Ex} {env : En} {st st1 st2 st3 st4 : Store} {x y z w : D} (h : a env st = .ok x st1) (h2 : b env st1 = .ok y st2) (h3 : c env st2 = .ok z st3) (h4 : d env st3 = .ok w st4) : eFn F (lCons a (lCons b (lCons c (lCons d lNil)))) env st = F [x, y, z, w] st4 := by
  unfold eFn lCons
  simp [h, h2, h3, h4]
theorem eVar_eq {i : Nat} {env : En} {st : Store} {d : D} (h : env i = some (false, d)) : eVar i env st = .ok d st := by simp [h]
theorem eBin_eq {g : D → D → Option D} {a b : Ex} {env : En} {st st1 st2 : Store} {x y z : D} (h : a env st = .ok x st1) (h2 : b env st1 = .ok y st2) (h3 : g x y = some z) : eBin (pur g) a b env st = .ok z st2 := by
  simp [h, h2, h3]
theorem g1_eq {f : D → Option D} {a : Ex} {env : En} {st st1 : Store} {x y : D} (h : a env st = .ok x st1) (h2 : f x = some y) : eFn (g1 fun d => lift (f d)) (lCons a lNil) env st = .ok y st1 := by
  rw [fn1 h]
  simp [h2]
theorem eIf_eq {t : Tx} {a b : Ex} {env : En} {st st1 : Store} {c : Bool} (h : t env st = .ok c st1) : eIf t a b env st = (if c = true then a env else b env) st1 := by
  unfold eIf
  rw [bnd_eq h]
theorem eAnd_t {a b : Ex} {env : En} {st st1 : Store} (h : a env st = .ok (.bl true) st1) : eAnd a b env st = b env st1 := by
  unfold eAnd
  rw [bnd_eq h]
theorem eAnd_f {a b : Ex} {env : En} {st st1 : Store} (h : a env st = .ok (.bl false) st1) : eAnd a b env st = .ok (.bl false) st1 := by
  unfold eAnd
  rw [bnd_eq h]
  rfl
theorem eOr_f {a b : Ex} {env : En} {st st1 : Store} (h : a env st = .ok (.bl false) st1) : eOr a b env st = b env st1 := by
  unfold eOr
  rw [bnd_eq h]
theorem eOr_t {a b : Ex} {env : En} {st st1 : Store} (h : a env st = .ok (.bl true) st1) : eOr a b env st = .ok (.bl true) st1 := by
  unfold eOr
  rw [bnd_eq h]
  rfl
theorem tAnd_t {t u : Tx} {env : En} {st st1 : Store} (h : t env st = .ok true st1) : tAnd' t u env st = u env st1 := by
  unfold tAnd'
  rw [bnd_eq h, if_pos rfl]
theorem tAnd_f {t u : Tx} {env : En} {st st1 : Store} (h : t env st = .ok false st1) : tAnd' t u env st = .ok false st1 := by
  unfold tAnd'
  rw [bnd_eq h, if_neg (by simp)]
  rfl
theorem eTup_eq {m : Lx} {env : En} {st st1 : Store} {ds : List D} (h : m env st = .ok ds st1) : eTup m env st = .ok (.tup ds) st1 := by
  unfold eTup
  rw [bnd_eq h]
  rfl
theorem eLst_eq {m : Lx} {env : En} {st st1 : Store} {ds : List D} (h : m env st = .ok ds st1) : eLst m env st = .ok (.lst ds) st1 := by
  unfold eLst
  rw [bnd_eq h]
  rfl
theorem lCons_eq {m : Ex} {r : Lx} {env : En} {st st1 st2 : Store} {d : D} {ds : List D} (h : m env st = .ok d st1) (h2 : r env st1 = .ok ds st2) : lCons m r env st = .ok (d :: ds) st2 := by
  unfold lCons
  rw [bnd_eq h, bnd_eq h2]
  rfl
theorem lNil_eq {env : En} {st : Store} : lNil env st = .ok [] st := rfl
theorem eC_eq {d : D} {env : En} {st : Store} : eC d env st = .ok d st := rfl
end Sm


set_option Elab.async false
set_option linter.all false
set_option maxRecDepth 100000
set_option maxHeartbeats 2000000
/-! Pl9: plain tools: least and greatest. -/
namespace Sm
open PySem PySem.Spec L2
theorem alikeAll_ints : ∀ xs ys : List Int, PySem.W.alikeAll (pyL (xs.map .int)) (pyL (ys.map .int)) = true := fun xs ys => by
  have := PySem.W.alike_ints xs ys
  rw [pyL_map, pyL_map, List.map_map, List.map_map]
  exact this
@[simp] theorem alike_tI (a b : List Int) : PySem.W.alike (tI a).py (tI b).py = true := by
  simp only [tI, D.py, PySem.W.alike]
  exact alikeAll_ints a b
@[simp] theorem alike_int (a b : Int) : PySem.W.alike (D.int a).py (D.int b).py = true := by simp [D.py, PySem.W.alike]
/-- the least of x and xs -/
def mn (x : Int) (xs : List Int) : Int := xs.foldl min x
def mx (x : Int) (xs : List Int) : Int := xs.foldl max x
theorem minF_int : ∀ (xs : List Int) (x : Int), minF (.int x) (xs.map .int) = .int (mn x xs)
  | [], x => rfl
  | y :: xs, x => by
    have := minF_int xs (min x y)
    unfold minF mn at this ⊢
    rw [List.map_cons, List.foldl_cons, List.foldl_cons, ← this]
    congr 1
    simp only [lt_int', decide_eq_true_eq]
    by_cases h : y < x
    · rw [if_pos h, Int.min_eq_right (by omega)]
    · rw [if_neg h, Int.min_eq_left (by omega)]
theorem maxF_int : ∀ (xs : List Int) (x : Int), maxF (.int x) (xs.map .int) = .int (mx x xs)
  | [], x => rfl
  | y :: xs, x => by
    have := maxF_int xs (max x y)
    unfold maxF mx at this ⊢
    rw [List.map_cons, List.foldl_cons, List.foldl_cons, ← this]
    congr 1
    simp only [lt_int', decide_eq_true_eq]
    by_cases h : x < y
    · rw [if_pos h, Int.max_eq_right (by omega)]
    · rw [if_neg h, Int.max_eq_left (by omega)]
theorem alkL_ints (xs : List Int) : alkL (xs.map .int) = true := by
  unfold alkL
  rw [shpL_all]
  simp [isNon]
@[simp] theorem minD_ints (x : Int) (xs : List Int) : minD' (.lst ((x :: xs).map .int)) = some (.int (mn x xs)) := by
  show (if alkL ((x :: xs).map .int) = true then some (minF (.int x) (xs.map .int)) else none) = _
  rw [if_pos (alkL_ints _), minF_int]
@[simp] theorem maxD_ints (x : Int) (xs : List Int) : maxD' (.lst ((x :: xs).map .int)) = some (.int (mx x xs)) := by
  show (if alkL ((x :: xs).map .int) = true then some (maxF (.int x) (xs.map .int)) else none) = _
  rw [if_pos (alkL_ints _), maxF_int]
theorem mn_le : ∀ (xs : List Int) (x : Int), mn x xs ≤ x ∧ (∀ y ∈ xs, mn x xs ≤ y)
  | [], x => ⟨Int.le_refl _, fun y h => by cases h⟩
  | z :: xs, x => by
    have ⟨h1, h2⟩ := mn_le xs (min x z)
    have e : mn x (z :: xs) = mn (min x z) xs := rfl
    rw [e]
    refine ⟨by omega, fun y hy => ?_⟩
    rcases List.mem_cons.mp hy with q | q
    · rw [q]; omega
    · exact h2 y q
theorem mn_mem : ∀ (xs : List Int) (x : Int), mn x xs ∈ x :: xs
  | [], x => by simp [mn]
  | z :: xs, x => by
    have h := mn_mem xs (min x z)
    have e : mn x (z :: xs) = mn (min x z) xs := rfl
    rw [e]
    rcases List.mem_cons.mp h with q | q
    · rw [q]
      by_cases g : x ≤ z
      · rw [Int.min_eq_left g]; simp
      · rw [Int.min_eq_right (by omega)]; simp
    · exact List.mem_cons_of_mem _ (List.mem_cons_of_mem _ q)
/-- (int, row of ints) -/
def kI (a : Int) (m : List Int) : D := .tup [.int a, tI m]
theorem alike_kI (a b : Int) (m o : List Int) : PySem.W.alike (kI a m).py (kI b o).py = true := by
  have := alike_tI m o
  have h2 := alike_int a b
  simp only [kI, D.py, PySem.W.alike, pyL, PySem.W.alikeAll, Bool.and_true, Bool.and_eq_true] at this h2 ⊢
  exact ⟨h2, this⟩
theorem lt_kI (a b : Int) (m o : List Int) (h : a ≠ b) : D.lt (kI a m) (kI b o) = decide (a < b) := by
  have := PySem.W.dataLt_pair (alike_int a b) (alike_tI m o)
  unfold D.lt
  show PySem.W.dataLt (.tuple [(D.int a).py, (tI m).py]) (.tuple [(D.int b).py, (tI o).py]) = _
  rw [this, if_neg, ← lt_int' (i := a)]
  · rfl
  · have e : PyData.eqv (D.int a).py (D.int b).py = decide (a = b) := eqv_int
    rw [e]; simpa using h
theorem minF_kI {α : Type} (f : α → Int) (g : α → List Int) : ∀ (xs : List α) (a : Int) (m : List Int), ∃ o, minF (kI a m) (xs.map fun x => kI (f x) (g x)) = kI (mn a (xs.map f)) o
  | [], a, m => ⟨m, rfl⟩
  | x :: xs, a, m => by
    unfold minF
    rw [List.map_cons, List.foldl_cons, List.map_cons]
    have e : mn a (f x :: xs.map f) = mn (min a (f x)) (xs.map f) := rfl
    rw [e]
    by_cases h : f x = a
    · rw [show min a (f x) = a by omega]
      by_cases l : D.lt (kI (f x) (g x)) (kI a m) = true
      · rw [if_pos l, h]
        exact minF_kI f g xs a (g x)
      · rw [if_neg l]
        exact minF_kI f g xs a m
    · rw [lt_kI _ _ _ _ h]
      by_cases l : f x < a
      · rw [if_pos (decide_eq_true l), show min a (f x) = f x by omega]
        exact minF_kI f g xs (f x) (g x)
      · rw [if_neg (by simpa using l), show min a (f x) = a by omega]
        exact minF_kI f g xs a m
theorem alkL_kI {α : Type} (f : α → Int) (g : α → List Int) (xs : List α) : alkL (xs.map fun x => kI (f x) (g x)) = true := by
  have h : ∀ x, shp 60 (kI (f x) (g x)) = true := fun x => by simp [kI, tI]
  unfold alkL
  rw [shpL_all]
  simp only [List.all_map, Bool.and_eq_true, List.all_eq_true, Function.comp]
  refine ⟨fun x _ => h x, fun x _ => ⟨rfl, fun y _ => alike_kI _ _ _ _⟩⟩
theorem minD_kI {α : Type} (f : α → Int) (g : α → List Int) (x : α) (xs : List α) : ∃ o, minD' (.lst ((x :: xs).map fun x => kI (f x) (g x))) = some (kI (mn (f x) (xs.map f)) o) := by
  obtain ⟨o, h⟩ := minF_kI f g xs (f x) (g x)
  refine ⟨o, ?_⟩
  show (if alkL ((x :: xs).map fun x => kI (f x) (g x)) = true then some (minF (kI (f x) (g x)) (xs.map fun x => kI (f x) (g x))) else none) = _
  rw [if_pos (alkL_kI _ _ _), h]
end Sm


set_option Elab.async false
set_option linter.all false
set_option maxRecDepth 100000
set_option maxHeartbeats 2000000
/-! Pl10: running the combinators step by step: the rules. -/
namespace Sm
open PySem PySem.Spec L2
abbrev tN (l : List Int) : D := .tup (l.map .int)
abbrev lN (l : List Int) : D := .lst (l.map .int)
section
variable {α β : Type} {env e1 e2 : En} {st st1 st2 st3 : Store} {d d1 d2 x y z : D} {i j l : Nat} {b c : Bool} {m ma mb mc : Ex} {t u : Tx} {s k : Sx} {ml : Lx} {f : Fl}
theorem ev_to {r : Res α} {a b : α} (h : r = .ok a st) (e : a = b) : r = .ok b st := e ▸ h
theorem put_eq {e : En} {i : Nat} {a : Bool} {x : D} : (e.put i a x) i = some (a, x) := if_pos rfl
theorem put_no {e : En} {i j : Nat} {a : Bool} {x : D} {r : Option (Bool × D)} (h : e j = r) (hj : (j == i) = false := by rfl) : (e.put i a x) j = r := by
  have : j ≠ i := by simpa using hj
  exact (if_neg this).trans h
theorem clr_no {e : En} {vs : List Nat} {j : Nat} {r : Option (Bool × D)} (h : e j = r) (hj : vs.contains j = false := by rfl) : (e.clr vs) j = r := by
  have : j ∉ vs := by simpa using hj
  exact (if_neg this).trans h
theorem ev_var (h : env i = some (false, d)) : eVar i env st = .ok d st := eVar_eq h
theorem ev_varB (h : env i = some (b, d)) : eVarB i env st = .ok d st := by simp [h]
theorem ev_bin {g : D → D → Option D} (h1 : ma env st = .ok x st1) (h2 : mb env st1 = .ok y st2) (h : g x y = some z) : eBin (pur g) ma mb env st = .ok z st2 := eBin_eq h1 h2 h
theorem ev_ix (h1 : ma env st = .ok x st1) (h2 : mb env st1 = .ok y st2) (h : ixD x y st2 = .ok z st2) : eBin ixD ma mb env st = .ok z st2 := by
  unfold eBin
  rw [bnd_eq h1, bnd_eq h2, h]
theorem ev_fn {F : Fx} {ds : List D} (h : ml env st = .ok ds st1) (k : F ds st1 = .ok d st2) : eFn F ml env st = .ok d st2 := by
  unfold eFn
  rw [bnd_eq h, k]
theorem ev_g1 {g : D → Option D} (h : g x = some y) : g1 (fun d => lift (g d)) [x] st = .ok y st := by simp [h]
theorem ev_g2 {g : D → D → Option D} (h : g x y = some z) : g2 (fun a b => lift (g a b)) [x, y] st = .ok z st := by simp [h]
theorem ev_chain {g g' : D → D → Option D} (h1 : ma env st = .ok x st1) (h2 : mb env st1 = .ok y st2) (h3 : g x y = some (.bl b)) (h4 : b = true → mc env st2 = .ok z st2) (h5 : b = true → g' y z = some (.bl c)) : eChain (pur g) (pur g') ma mb mc env st = .ok (.bl (b && c)) st2 := by
  unfold eChain
  rw [bnd_eq h1, bnd_eq h2]
  show bnd (lift (g x y)) _ _ = _
  rw [h3]
  cases b with
  | true =>
    show bnd (mc env) _ _ = _
    rw [bnd_eq (h4 rfl)]
    show lift (g' y z) st2 = _
    rw [h5 rfl]
    rfl
  | false => rfl
theorem ev_and (h1 : ma env st = .ok (.bl b) st1) (h2 : b = true → mb env st1 = .ok (.bl c) st1) : eAnd ma mb env st = .ok (.bl (b && c)) st1 := by
  cases b with
  | true => rw [eAnd_t h1]; exact h2 rfl
  | false => exact eAnd_f h1
theorem ev_or (h1 : ma env st = .ok (.bl b) st1) (h2 : b = false → mb env st1 = .ok (.bl c) st1) : eOr ma mb env st = .ok (.bl (b || c)) st1 := by
  cases b with
  | false => rw [eOr_f h1]; exact h2 rfl
  | true => exact eOr_t h1
theorem ev_not (h1 : ma env st = .ok (.bl b) st1) : eNot ma env st = .ok (.bl !b) st1 := by
  unfold eNot
  rw [bnd_eq h1]
  rfl
theorem ev_neg {i : Int} (h1 : ma env st = .ok (.int i) st1) : eNeg ma env st = .ok (.int (-i)) st1 := by
  unfold eNeg
  rw [bnd_eq h1]
  rfl
theorem ev_if (h : t env st = .ok b st1) (h1 : b = true → ma env st1 = .ok x st2) (h2 : b = false → mb env st1 = .ok y st2) : eIf t ma mb env st = .ok (if b = true then x else y) st2 := by
  rw [eIf_eq h]
  cases b with
  | true => exact h1 rfl
  | false => exact h2 rfl
theorem ev_isa {p : PyData → Bool} (h : m env st = .ok d st1) (hd : dat 60 d = true) (hp : p d.py = b) : eIsa p m env st = .ok (.bl b) st1 := by
  unfold eIsa isaD
  rw [bnd_eq h, if_pos hd, hp]
  rfl
theorem ev_tup {ds : List D} (h : ml env st = .ok ds st1) : eTup ml env st = .ok (.tup ds) st1 := eTup_eq h
theorem ev_lst {ds : List D} (h : ml env st = .ok ds st1) : eLst ml env st = .ok (.lst ds) st1 := eLst_eq h
theorem ev_cons {ds : List D} (h : m env st = .ok d st1) (h2 : ml env st1 = .ok ds st2) : lCons m ml env st = .ok (d :: ds) st2 := lCons_eq h h2
theorem ev_dct1 {k v : Ex} {q : Key} (h1 : k env st = .ok x st1) (h2 : v env st1 = .ok y st2) (h : keyD x = some q) : eDct1 k v env st = .ok (.dct [(x, y)]) st2 := by
  unfold eDct1
  rw [bnd_eq h1, bnd_eq h2]
  unfold dct1
  rw [h]
  rfl
theorem ev_rev (h : m env st = .ok x st1) (h2 : revD x = some y) : eRev m env st = .ok y st1 := by
  unfold eRev
  rw [bnd_eq h, h2]
  rfl
theorem ev_srtSet (h : m env st = .ok x st1) (h2 : setSD x = some y) : eSrtSet m env st = .ok y st1 := by
  unfold eSrtSet
  rw [bnd_eq h, h2]
  rfl
theorem ev_lenSet (h : m env st = .ok x st1) (h2 : setND x = some y) : eLenSet m env st = .ok y st1 := by
  unfold eLenSet
  rw [bnd_eq h, h2]
  rfl
theorem ev_rgL1 {n : Nat} (h : m env st = .ok (.int (n : Int)) st1) (hn : n < 100000) : eRgL1 m env st = .ok (.lst ((List.range n).map fun i => .int (i : Nat))) st1 := by
  unfold eRgL1
  rw [bnd_eq h]
  dsimp only
  have hl : (n : Int) ≤ (line : Nat) := Int.ofNat_le.mpr (toLine (by omega))
  rw [if_pos ⟨sm62_of hn, hl⟩]
  simp [rngD]
theorem ev_pAt {i : Int} (h : m env st = .ok (.int i) st1) : pAt m env st = .ok (some i) st1 := by
  unfold pAt
  rw [bnd_eq h]
  rfl
theorem ev_pNo : pNo env st = .ok none st := rfl
theorem ev_sl {g : D → Option Int → Option Int → Option D} {lo hi : Px} {a c : Option Int} (h1 : m env st = .ok x st1) (h2 : lo env st1 = .ok a st2) (h3 : hi env st2 = .ok c st3) (h : g x a c = some y) : eSl g m lo hi env st = .ok y st3 := by
  unfold eSl
  rw [bnd_eq h1, bnd_eq h2, bnd_eq h3, h]
  rfl
/-! tests -/
theorem ev_tV (h : m env st = .ok (.bl b) st1) : tV m env st = .ok b st1 := tV_eq h
theorem ev_tNot (h : t env st = .ok b st1) : tNot' t env st = .ok (!b) st1 := tNot_eq h
theorem ev_tAnd (h1 : t env st = .ok b st1) (h2 : b = true → u env st1 = .ok c st1) : tAnd' t u env st = .ok (b && c) st1 := by
  cases b with
  | true => rw [tAnd_t h1]; exact h2 rfl
  | false => exact tAnd_f h1
theorem ev_tOr (h1 : t env st = .ok b st1) (h2 : b = false → u env st1 = .ok c st1) : tOr' t u env st = .ok (b || c) st1 := by
  cases b with
  | false => rw [tOr_no h1]; exact h2 rfl
  | true => exact tOr_yes h1
/-! statements -/
theorem ev_seq {r : Res Fl} (h : s env st = .ok (.nx e1) st1) (h2 : k e1 st1 = r) : sSeq s k env st = r := (sSeq_eq h).trans h2
theorem ev_never (h : t env st = .ok b st1) (hb : b = false) : sIf t sNever sNil env st = .ok (.nx env) st1 := by
  subst hb
  exact sIf_no h
/-- if c: return ..; and on -/
theorem ev_ifRet (h : t env st = .ok b st1) (h1 : b = true → s env st1 = .ok (.rt x) st2) (h2 : b = false → k env st1 = .ok (.rt y) st2) : sSeq (sIf t s sNil) k env st = .ok (.rt (if b = true then x else y)) st2 := by
  cases b with
  | true =>
    have : sIf t s sNil env st = .ok (.rt x) st2 := by rw [sIf_eq h, if_pos rfl]; exact h1 rfl
    rw [sSeq_rt this]; rfl
  | false => rw [sSeq_eq (sIf_no h)]; exact h2 rfl
/-- if c: return ..; the test is known to fail -/
theorem ev_ifNo {r : Res Fl} (h : t env st = .ok b st1) (hb : b = false) (h2 : k env st1 = r) : sSeq (sIf t s sNil) k env st = r := by
  subst hb
  rw [sSeq_eq (sIf_no h)]; exact h2
theorem ev_ifElse {s2 : Sx} (h : t env st = .ok b st1) (h1 : b = true → s env st1 = .ok (.rt x) st2) (h2 : b = false → s2 env st1 = .ok (.rt y) st2) : sIf t s s2 env st = .ok (.rt (if b = true then x else y)) st2 := by
  rw [sIf_eq h]
  cases b with
  | true => exact h1 rfl
  | false => exact h2 rfl
theorem put_same' {e : En} {i : Nat} (h : e i = some (b, d)) : e.put i b d = e := by
  funext j
  by_cases q : j = i
  · subst q; rw [h]; exact if_pos rfl
  · exact if_neg q
/-- if c: i = .. -/
theorem ev_ifSet (h : t env st = .ok b st1) (h0 : env i = some (false, y)) (h1 : b = true → m env st1 = .ok x st1) : sIf t (sSet i m) sNil env st = .ok (.nx (env.put i false (if b = true then x else y))) st1 := by
  rw [sIf_eq h]
  cases b with
  | true => exact sSet_eq (h1 rfl)
  | false =>
    show Res.ok (Fl.nx env) st1 = .ok (.nx (env.put i false y)) st1
    rw [put_same' h0]
theorem ev_set (h : m env st = .ok d st1) : sSet i m env st = .ok (.nx (env.put i false d)) st1 := sSet_eq h
theorem ev_own (h : m env st = .ok d st1) : sOwn i m env st = .ok (.nx (env.put i true d)) st1 := sOwn_eq h
theorem ev_ret (h : m env st = .ok d st1) : sRet m env st = .ok (.rt d) st1 := sRet_eq h
theorem ev_drop (h : m env st = .ok d st1) : sDrop m env st = .ok (.nx env) st1 := sDrop_eq h
theorem ev_frz {r : Res Fl} (h : env i = some (true, d)) (h2 : s (env.put i false d) st = r) : sFrz i s env st = r := by
  unfold sFrz En.frz
  rw [h]
  exact h2
theorem ev_frzNo {r : Res Fl} (h : env i = some (false, d)) (h2 : s env st = r) : sFrz i s env st = r := by
  unfold sFrz En.frz
  rw [h]
  exact h2
theorem ev_par (h1 : ma env st = .ok x st1) (h2 : mb env st1 = .ok y st2) : sPar i j (lCons ma (lCons mb lNil)) env st = .ok (.nx ((env.put i false x).put j false y)) st2 := by
  unfold sPar
  rw [bnd_eq (lCons_eq h1 (lCons_eq h2 lNil_eq))]
  rfl
theorem ev_par2 {κ1 κ2 : Kd} (h1 : ma env st = .ok x st1) (h2 : mb env st1 = .ok y st2) : sPar2 κ1 κ2 i j ma mb env st = .ok (.nx ((env.put i κ1.own x).put j κ2.own y)) st2 := by
  unfold sPar2
  rw [bnd_eq h1, bnd_eq h2]
  rfl
theorem ev_par3 {κ1 κ2 κ3 : Kd} (h1 : ma env st = .ok x st1) (h2 : mb env st1 = .ok y st2) (h3 : mc env st2 = .ok z st3) : sPar3 κ1 κ2 κ3 i j l ma mb mc env st = .ok (.nx (((env.put i κ1.own x).put j κ2.own y).put l κ3.own z)) st3 := by
  unfold sPar3
  rw [bnd_eq h1, bnd_eq h2, bnd_eq h3]
  rfl
theorem ev_asg {g : Gx} (h : m env st = .ok d st1) (h2 : g d env = some e1) : sAsg g m env st = .ok (.nx e1) st1 := by
  unfold sAsg
  rw [bnd_eq h]
  simp [h2]
theorem ev_app {xs : List D} (h0 : env i = some (true, .lst xs)) (h : m env st = .ok d st1) (hl : xs.length < 100000) : sApp i m env st = .ok (.nx (env.put i true (.lst (xs ++ [d])))) st1 := by
  unfold sApp
  rw [h0]
  show bnd (m env) _ st = _
  rw [bnd_eq h, if_pos (Nat.lt_of_lt_of_le hl (by decide))]
  rfl
theorem ev_ext {xs ys : List D} (h0 : env i = some (true, .lst xs)) (h : m env st = .ok (.lst ys) st1) (hl : xs.length + ys.length ≤ 100000) : sExt i m env st = .ok (.nx (env.put i true (.lst (xs ++ ys)))) st1 := by
  unfold sExt
  rw [h0]
  show bnd (m env) _ st = _
  rw [bnd_eq h]
  show (if xs.length + ys.length ≤ line then ret (Fl.nx (env.put i true (.lst (xs ++ ys)))) else halt) st1 = _
  rw [if_pos (toLine hl)]
  rfl
theorem ev_call {ds : List D} (h : s (env0 ds) st = .ok (.rt d) st1) : callS .froz s ds st = .ok d st1 := callS_rt h
theorem ev_callF {ds : List D} (h : s (env0 ds) st = .ok (.rt d) st1) : callS .fresh s ds st = .ok d st1 := callS_frt h
theorem ev_callN {ds : List D} (h : s (env0 ds) st = .ok (.nx e1) st1) : callS .froz s ds st = .ok .non st1 := callS_nx h
/-! iterables -/
theorem ev_iSeq {xs : List D} (h : m env st = .ok x st1) (h2 : seqD x = some xs) : iSeq m env st = .ok xs st1 := iSeq_eq h h2
theorem ev_iRng {n : Nat} (h : m env st = .ok (.int (n : Int)) st1) (hn : n < 100000) : iRng1S m env st = .ok ((List.range n).map fun i => .int (i : Nat)) st1 := iRng_eq h hn
theorem ev_iEnum {α : Type} {xs : List α} {f : α → D} (h : m env st = .ok x st1) (h2 : seqD x = some (xs.map f)) : iEnumS m env st = .ok (xs.zipIdx.map fun p => .tup [.int (p.2 : Nat), f p.1]) st1 := by
  rw [← enumD0_map]
  unfold iEnumS
  rw [bnd_eq h, h2]
  rfl
theorem ev_iZip {α β : Type} {xs : List α} {f : α → D} {ys : List β} {g : β → D} (h : ma env st = .ok x st1) (h2 : mb env st1 = .ok y st2) (hx : seqD x = some (xs.map f)) (hy : seqD y = some (ys.map g)) : iZipS ma mb env st = .ok ((xs.zip ys).map fun p => .tup [f p.1, g p.2]) st2 := by
  unfold iZipS
  rw [bnd_eq h, bnd_eq h2, hx, hy, ← zipD_map]
  rfl
theorem ev_lc {vs : List Nat} {it : Lx} {g : Gx} (xs : List α) (enc : α → D) (p : α → Bool) (f : α → D) (hi : it env st = .ok (xs.map enc) st1) (h : ∀ x ∈ xs, ∃ e1, g (enc x) (env.clr vs) = some e1 ∧ t e1 st1 = .ok (p x) st1 ∧ (p x = true → m e1 st1 = .ok (f x) st1)) (hl : xs.length ≤ 100000) :
    eLc vs it g t m env st = .ok (.lst ((xs.filter p).map f)) st1 := eLc_pure xs enc p f hi (toLine hl) h
theorem ev_lcM {vs : List Nat} {it : Lx} {g : Gx} (xs : List α) (enc : α → D) (f : α → D) (hi : it env st = .ok (xs.map enc) st1) (h : ∀ x ∈ xs, ∃ e1, g (enc x) (env.clr vs) = some e1 ∧ m e1 st1 = .ok (f x) st1) (hl : xs.length ≤ 100000) :
    eLc vs it g tYesS m env st = .ok (.lst (xs.map f)) st1 := eLc_map xs enc f hi (toLine hl) (fun _ => rfl) h
end
/-! ### leaves -/
theorem inD_tup {α : Type} {x : D} {xs : List α} {f : α → D} (h : shp 60 x = true) (hs : ∀ a ∈ xs, shp 60 (f a) = true) : inD x (.tup (xs.map f)) = some (.bl (xs.any fun a => D.eqv (f a) x)) := by
  unfold inD
  have e : (shp 60 x && shpL 60 (xs.map f)) = true := by
    rw [h, shpL_all]
    simpa using hs
  simp only [e, List.any_map]
  rfl
theorem inD_lst {α : Type} {x : D} {xs : List α} {f : α → D} (h : shp 60 x = true) (hs : ∀ a ∈ xs, shp 60 (f a) = true) : inD x (.lst (xs.map f)) = some (.bl (xs.any fun a => D.eqv (f a) x)) := by
  unfold inD
  have e : (shp 60 x && shpL 60 (xs.map f)) = true := by
    rw [h, shpL_all]
    simpa using hs
  simp only [e, List.any_map]
  rfl
theorem inD_ints {x : Int} {xs : List Int} : inD (.int x) (tN xs) = some (.bl (xs.contains x)) := by
  rw [inD_tup (by simp) (by simp)]
  congr 2
  rw [Bool.eq_iff_iff]
  simp only [List.any_eq_true, eqv_int, decide_eq_true_eq, List.contains_iff_exists_mem_beq, beq_iff_eq]
  exact ⟨fun ⟨a, h, e⟩ => ⟨a, h, e.symm⟩, fun ⟨a, h, e⟩ => ⟨a, h, e.symm⟩⟩
theorem inD_intsL {x : Int} {xs : List Int} : inD (.int x) (lN xs) = some (.bl (xs.contains x)) := by
  rw [inD_lst (by simp) (by simp)]
  congr 2
  rw [Bool.eq_iff_iff]
  simp only [List.any_eq_true, eqv_int, decide_eq_true_eq, List.contains_iff_exists_mem_beq, beq_iff_eq]
  exact ⟨fun ⟨a, h, e⟩ => ⟨a, h, e.symm⟩, fun ⟨a, h, e⟩ => ⟨a, h, e.symm⟩⟩
theorem ninD_ints {x : Int} {xs : List Int} : ninD (.int x) (tN xs) = some (.bl (!xs.contains x)) := by
  unfold ninD
  rw [inD_ints]
  rfl
theorem ninD_intsL {x : Int} {xs : List Int} : ninD (.int x) (lN xs) = some (.bl (!xs.contains x)) := by
  unfold ninD
  rw [inD_intsL]
  rfl
theorem add_tup {a b : List D} (h : a.length + b.length ≤ 100000) : addA (.tup a) (.tup b) = some (.tup (a ++ b)) := by
  have : a.length + b.length ≤ line := toLine h
  simp [addA, addD, this]
theorem add_lst {a b : List D} (h : a.length + b.length ≤ 100000) : addA (.lst a) (.lst b) = some (.lst (a ++ b)) := by
  have : a.length + b.length ≤ line := toLine h
  simp [addA, addD, addL, this]
theorem ix_tup {α : Type} {xs : List α} {f : α → D} {i : Nat} {a : α} {st : Store} (h : xs[i]? = some a) : ixD (.tup (xs.map f)) (.int (i : Nat)) st = .ok (f a) st := by
  obtain ⟨hi, ha⟩ := List.getElem?_eq_some_iff.mp h
  have hi' : (i : Int) < (xs.length : Int) := by omega
  simp [atI, hi', h, hi, ha]
theorem ix_lst {α : Type} {xs : List α} {f : α → D} {i : Nat} {a : α} {st : Store} (h : xs[i]? = some a) : ixD (.lst (xs.map f)) (.int (i : Nat)) st = .ok (f a) st := by
  obtain ⟨hi, ha⟩ := List.getElem?_eq_some_iff.mp h
  have hi' : (i : Int) < (xs.length : Int) := by omega
  simp [atI, hi', h, hi, ha]
end Sm
namespace Sm
open PySem PySem.Spec L2
theorem lenD_tup' {α : Type} {xs : List α} {f : α → D} : lenD (.tup (xs.map f)) = some (.int xs.length) := by simp
theorem lenD_lst' {α : Type} {xs : List α} {f : α → D} : lenD (.lst (xs.map f)) = some (.int xs.length) := by simp
theorem sumD_f {α : Type} {xs : List α} {f : α → Int} : sumD (.lst (xs.map fun x => .int (f x))) = some (.int (xs.map f).sum) := by
  have e : (xs.map fun x => D.int (f x)) = (xs.map f).map D.int := by simp
  rw [e, sumD_lst]
theorem repI {i : Int} (h : -(2 ^ 62) < i ∧ i < 2 ^ 62 := by omega) : repD (.int i) = some (.str (D.int i).py.shown) := rep_ok ⟨by simp, by simp, by simpa using h, by simp only [wt]; exact toLine (by omega)⟩
theorem ev_isOp {a b : D} {t : Bool} (h : isD' a b = some t) : isOp a b = some (.bl t) := by unfold isOp; rw [h]; rfl
theorem ev_isntOp {a b : D} {t : Bool} (h : isD' a b = some t) : isntOp a b = some (.bl !t) := by unfold isntOp; rw [h]; rfl
theorem eqD_gen {a b : D} (h1 : shp 60 a = true) (h2 : shp 60 b = true) : eqD a b = some (.bl (D.eqv a b)) := by unfold eqD; rw [h1, h2]; rfl
theorem neD_gen {a b : D} (h1 : shp 60 a = true) (h2 : shp 60 b = true) : neD a b = some (.bl (!D.eqv a b)) := by unfold neD; rw [h1, h2]; rfl
end Sm
namespace Sm
open PySem PySem.Spec L2
section
variable {env e1 : En} {st st1 st2 : Store} {x y : D} {i : Nat} {b : Bool} {m : Ex} {t : Tx} {k : Sx} {r : Res Fl}
theorem ev_seqNever (h : t env st = .ok b st1) (hb : b = false) (h2 : k env st1 = r) : sSeq (sIf t sNever sNil) k env st = r := ev_seq (ev_never h hb) h2
theorem ev_seqIfSet (h : t env st = .ok b st1) (h0 : env i = some (false, y)) (h1 : b = true → m env st1 = .ok x st1) (h2 : k (env.put i false (if b = true then x else y)) st1 = r) : sSeq (sIf t (sSet i m) sNil) k env st = r := ev_seq (ev_ifSet h h0 h1) h2
end
end Sm
namespace Sm
open PySem PySem.Spec L2
section
variable {α : Type} [Inhabited α] {xs : List α} {f : α → D} {st : Store}
theorem ix_lst0 (h : xs.length ≠ 0) : ixD (.lst (xs.map f)) (.int 0) st = .ok (f (xs.headD default)) st := by
  cases xs with
  | nil => exact absurd rfl h
  | cons x xs => simp
theorem ix_tup0 (h : xs.length ≠ 0) : ixD (.tup (xs.map f)) (.int 0) st = .ok (f (xs.headD default)) st := by
  cases xs with
  | nil => exact absurd rfl h
  | cons x xs => simp
theorem atI_last {β : Type} {ys : List β} (h : ys.length ≠ 0) : atI ys (-1) = ys[ys.length - 1]? := by
  unfold atI ixN
  have h1 : ¬ (0 : Int) ≤ -1 := by decide
  have h2 : -(ys.length : Int) ≤ -1 := by omega
  rw [if_neg h1, if_pos h2]
  show ys[((-1 : Int) + (ys.length : Int)).toNat]? = _
  congr 1
  omega
theorem ix_lstL (h : xs.length ≠ 0) : ixD (.lst (xs.map f)) (.int (-1)) st = .ok (f (xs.getLastD default)) st := by
  simp only [ixD_lst]
  rw [atI_last (by simpa using h)]
  rw [List.length_map, List.getElem?_map, ← List.getLast?_eq_getElem?]
  cases xs with
  | nil => exact absurd rfl h
  | cons x xs => simp [List.getLast?_eq_some_getLast]
theorem ix_tupL (h : xs.length ≠ 0) : ixD (.tup (xs.map f)) (.int (-1)) st = .ok (f (xs.getLastD default)) st := by
  have := ix_lstL (f := f) (st := st) h
  simpa using this
end
end Sm
namespace Sm
open PySem PySem.Spec L2
theorem mulS_r {i j : Int} (h : -1000000000000000000 < j ∧ j < 1000000000000000000) : mulA (.int i) (.int j) = some (.int (i * j)) := mulA_r (by
  have e : (2 : Int) ^ 64 = 18446744073709551616 := by decide
  rw [e]; omega)
theorem mulS_l {i j : Int} (h : -1000000000000000000 < i ∧ i < 1000000000000000000) : mulA (.int i) (.int j) = some (.int (i * j)) := mulA_l (by
  have e : (2 : Int) ^ 64 = 18446744073709551616 := by decide
  rw [e]; omega)
end Sm
namespace Sm
open PySem PySem.Spec L2
theorem put_put {e : En} {i : Nat} {a b : Bool} {x y : D} : (e.put i a x).put i b y = e.put i b y := by
  funext j
  unfold En.put
  by_cases q : j = i
  · rw [if_pos q, if_pos q]
  · rw [if_neg q, if_neg q, if_neg q]
end Sm
namespace Sm
open PySem PySem.Spec L2
theorem add_lstL {a b : List D} (h : a.length + b.length ≤ 100000) : addL (.lst a) (.lst b) = some (.lst (a ++ b)) := by
  have : a.length + b.length ≤ line := toLine h
  simp [addL, this]
theorem cut_map {α β : Type} (f : α → β) (xs : List α) (a b : Option Int) : cut (xs.map f) a b = (cut xs a b).map f := by
  unfold cut
  rw [List.length_map, ← List.map_drop, ← List.map_take]
theorem cut_sub {α : Type} (xs : List α) (a b : Option Int) : (cut xs a b).Sublist xs := by
  unfold cut
  exact (List.take_sublist _ _).trans (List.drop_sublist _ _)
section
variable {α : Type} {xs : List α} {f : α → D}
theorem revD_tup' : revD (.tup (xs.map f)) = some (.tup (xs.reverse.map f)) := by simp [revD]
theorem revD_lst' : revD (.lst (xs.map f)) = some (.lst (xs.reverse.map f)) := by simp [revD]
theorem slA_tup' {a b : Option Int} : slA (.tup (xs.map f)) a b = some (.tup ((cut xs a b).map f)) := by rw [← cut_map]; rfl
theorem slA_lst' {a b : Option Int} : slA (.lst (xs.map f)) a b = some (.lst ((cut xs a b).map f)) := by rw [← cut_map]; rfl
end
end Sm
namespace Sm
theorem ev_to' {α : Type} {r : Option α} {a b : α} (h : r = some a) (e : a = b) : r = some b := e ▸ h
end Sm


set_option Elab.async false
set_option linter.all false
set_option maxRecDepth 100000
set_option maxHeartbeats 2000000
/-! Pl11: rows of numbers in order; x.index. -/
namespace Sm
open PySem PySem.Spec L2
/-- rows of numbers, the first place that differs -/
def lexB : List Int → List Int → Bool
  | [], [] => false
  | [], _ :: _ => true
  | _ :: _, [] => false
  | x :: xs, y :: ys => if x = y then lexB xs ys else decide (x < y)
theorem lex_rows : ∀ a b : List Int, PyProof.Rows.lexLt PyProof.Rows.itemOrd (PySem.W.keyToksAll (pyL (a.map .int))) (PySem.W.keyToksAll (pyL (b.map .int))) = lexB a b
  | [], [] => PyProof.Rows.lex_irrefl _
  | [], y :: ys => by
    simp only [List.map_nil, List.map_cons, pyL, PySem.W.keyToksAll, lexB]
    rw [PyProof.Rows.lex_diff (O := PyProof.Rows.itemOrd) (by simp)]
    rfl
  | x :: xs, [] => by
    simp only [List.map_nil, List.map_cons, pyL, PySem.W.keyToksAll, lexB]
    rw [PyProof.Rows.lex_diff (O := PyProof.Rows.itemOrd) (by simp)]
    rfl
  | x :: xs, y :: ys => by
    have ih := lex_rows xs ys
    have e1 : pyL ((x :: xs).map .int) = PyData.int x :: pyL (xs.map .int) := rfl
    have e2 : pyL ((y :: ys).map .int) = PyData.int y :: pyL (ys.map .int) := rfl
    rw [e1, e2, PySem.W.dataLt_cons (by simp [PySem.W.alike]), ih]
    simp only [lexB, PyData.eqv, beq_iff_eq, PySem.W.dataLt_int]
theorem lt_tN (a b : List Int) : D.lt (tN a) (tN b) = lexB a b := by
  unfold D.lt
  show PySem.W.dataLt (.tuple (pyL (a.map .int))) (.tuple (pyL (b.map .int))) = _
  rw [PySem.W.dataLt_tuple, lex_rows]
theorem lexB_self : ∀ a, lexB a a = false
  | [] => rfl
  | x :: a => by rw [lexB, if_pos rfl]; exact lexB_self a
theorem lexB_asym : ∀ a b, lexB a b = true → lexB b a = false
  | [], [], h => rfl
  | [], y :: ys, h => rfl
  | x :: xs, [], h => by cases h
  | x :: xs, y :: ys, h => by
    rw [lexB] at h ⊢
    by_cases q : x = y
    · rw [if_pos q] at h; rw [if_pos q.symm]; exact lexB_asym xs ys h
    · rw [if_neg q] at h; rw [if_neg (fun z => q z.symm)]
      simp only [decide_eq_true_eq] at h
      simp only [decide_eq_false_iff_not]; omega
theorem lexB_conn : ∀ a b, lexB a b = false → lexB b a = false → a = b
  | [], [], _, _ => rfl
  | [], y :: ys, h, _ => by cases h
  | x :: xs, [], _, h => by cases h
  | x :: xs, y :: ys, h, g => by
    rw [lexB] at h g
    by_cases q : x = y
    · rw [if_pos q] at h; rw [if_pos q.symm] at g
      rw [q, lexB_conn xs ys h g]
    · rw [if_neg q] at h; rw [if_neg (fun z => q z.symm)] at g
      simp only [decide_eq_false_iff_not] at h g
      omega
theorem lexB_trans : ∀ a b c, lexB a b = true → lexB b c = true → lexB a c = true
  | [], [], _, h, _ => by cases h
  | [], _ :: _, [], _, g => by cases g
  | [], _ :: _, _ :: _, _, _ => rfl
  | _ :: _, [], _, h, _ => by cases h
  | _ :: _, _ :: _, [], _, g => by cases g
  | x :: xs, y :: ys, z :: zs, h, g => by
    rw [lexB] at h g ⊢
    by_cases q : x = y
    · subst q
      rw [if_pos rfl] at h
      by_cases r : x = z
      · rw [if_pos r] at g ⊢; exact lexB_trans xs ys zs h g
      · rw [if_neg r] at g ⊢; exact g
    · rw [if_neg q] at h
      simp only [decide_eq_true_eq] at h
      by_cases r : y = z
      · subst r
        rw [if_neg q]
        simpa using h
      · rw [if_neg r] at g
        simp only [decide_eq_true_eq] at g
        rw [if_neg (by omega)]
        simp only [decide_eq_true_eq]; omega
/-- sorted by a row of numbers that tells the things apart: the one list in order -/
theorem ms_eq {α : Type} {le : α → α → Bool} {k : α → List Int} {l c : List α} (hle : ∀ a b, le a b = !lexB (k b) (k a)) (hp : c.Perm l) (hs : c.Pairwise fun a b => lexB (k a) (k b) = true) (hk : ∀ a ∈ l, ∀ b ∈ l, k a = k b → a = b) : l.mergeSort le = c := by
  have h1 : (l.mergeSort le).Pairwise fun a b => le a b = true := List.pairwise_mergeSort (fun a b c h1 h2 => by
    rw [hle] at h1 h2 ⊢
    simp only [Bool.not_eq_true'] at h1 h2 ⊢
    cases q : lexB (k c) (k a) with
    | false => rfl
    | true =>
      by_cases r : lexB (k a) (k b) = true
      · rw [lexB_trans _ _ _ q r] at h2; cases h2
      · rw [lexB_conn _ _ (by simpa using r) h1] at q
        rw [q] at h2; cases h2) (fun a b => by
    rw [hle, hle]
    cases q : lexB (k b) (k a) with
    | false => rfl
    | true => rw [lexB_asym _ _ q]; rfl) l
  have h2 : c.Pairwise fun a b => le a b = true := hs.imp fun h => by rw [hle, lexB_asym _ _ h]; rfl
  refine List.Perm.eq_of_pairwise (fun a b ha hb h3 h4 => ?_) h1 h2 ((List.mergeSort_perm l le).trans hp.symm)
  rw [hle] at h3 h4
  simp only [Bool.not_eq_true'] at h3 h4
  exact hk a ((List.mergeSort_perm l le).mem_iff.mp ha) b (hp.mem_iff.mp hb) (lexB_conn _ _ h4 h3)
/-! ### x.index -/
theorem place_ints : ∀ (o : List Int) (x : Int), placeD (o.map .int) (.int x) = o.idxOf x
  | [], x => rfl
  | y :: o, x => by
    have ih := place_ints o x
    unfold placeD at ih ⊢
    rw [List.map_cons, List.map_cons, List.idxOf_cons, List.idxOf_cons, ih]
    have : D.eqv (.int y) (.int x) = (y == x) := by rw [show D.eqv (.int y) (.int x) = decide (y = x) from eqv_int]; rfl
    rw [this]
    cases q : y == x <;> rfl
theorem index_tN {o : List Int} {x : Int} (h : x ∈ o) : indexD (tN o) (.int x) = some (.int (o.idxOf x : Nat)) := by
  unfold indexD
  have e : (shpL 60 (o.map D.int) && shp 60 (.int x) && (o.map D.int).any fun y => D.eqv y (.int x)) = true := by
    rw [shpL_all]
    simp only [Bool.and_eq_true, List.any_eq_true, List.mem_map, List.all_eq_true]
    exact ⟨⟨by simp, by simp⟩, _, ⟨x, h, rfl⟩, by rw [show D.eqv (.int x) (.int x) = decide (x = x) from eqv_int]; simp⟩
  show (if _ then _ else _) = _
  rw [if_pos e, place_ints]
theorem index_lN {o : List Int} {x : Int} (h : x ∈ o) : indexD (lN o) (.int x) = some (.int (o.idxOf x : Nat)) := by
  rw [← index_tN h]
  rfl
section
variable {env : En} {st st1 st2 : Store} {o : List Int} {x : Int} {m : Ex} {ml : Lx}
theorem ev_index (h1 : m env st = .ok (tN o) st1) (h2 : ml env st1 = .ok [.int x] st2) (h : x ∈ o) : eMt kIndex (fun d => g1 fun x => lift (indexD d x)) m ml env st = .ok (.int (o.idxOf x : Nat)) st2 := by
  unfold eMt
  rw [bnd_eq h1]
  show bnd (ml env) _ _ = _
  rw [bnd_eq h2]
  exact ev_g1 (g := fun y => indexD (tN o) y) (index_tN h)
theorem ev_indexL (h1 : m env st = .ok (lN o) st1) (h2 : ml env st1 = .ok [.int x] st2) (h : x ∈ o) : eMt kIndex (fun d => g1 fun x => lift (indexD d x)) m ml env st = .ok (.int (o.idxOf x : Nat)) st2 := by
  unfold eMt
  rw [bnd_eq h1]
  show bnd (ml env) _ _ = _
  rw [bnd_eq h2]
  exact ev_g1 (g := fun y => indexD (lN o) y) (index_lN h)
end
/-! ### range(i, j) -/
def rgI (i j : Int) : List Int := (List.range (j - i).toNat).map fun t : Nat => i + (t : Int)
theorem mem_rgI {i j x : Int} : x ∈ rgI i j ↔ i ≤ x ∧ x < j := by
  unfold rgI
  rw [List.mem_map]
  constructor
  · rintro ⟨t, ht, rfl⟩
    have := List.mem_range.mp ht
    omega
  · intro h
    exact ⟨(x - i).toNat, List.mem_range.mpr (by omega), by omega⟩
theorem rgI_len {i j : Int} : (rgI i j).length = (j - i).toNat := by simp [rgI]
theorem rgI_up (i j : Int) : (rgI i j).Pairwise (· < ·) := by
  unfold rgI
  rw [List.pairwise_map]
  exact List.pairwise_lt_range.imp fun h => by omega
theorem ev_iRngI {env : En} {st st1 : Store} {m : Ex} {n : Nat} (h : m env st = .ok (.int (n : Int)) st1) (hn : n < 100000) : iRng1S m env st = .ok ((rgI 0 n).map .int) st1 := by
  rw [ev_iRng h hn]
  congr 1
  simp [rgI]
theorem ev_iRng2 {env : En} {st st1 st2 : Store} {ma mb : Ex} {i j : Int} (h1 : ma env st = .ok (.int i) st1) (h2 : mb env st1 = .ok (.int j) st2) (hi : -1000000000 < i ∧ i < 1000000000) (hj : -1000000000 < j ∧ j < 1000000000) : iRng2S ma mb env st = .ok ((rgI i j).map .int) st2 := by
  unfold iRng2S
  rw [bnd_eq h1, bnd_eq h2]
  have e : (2 : Int) ^ 62 = 4611686018427387904 := by decide
  have : (sm62 i && sm62 j) = true := by
    unfold sm62
    rw [e]
    simp only [Bool.and_eq_true, decide_eq_true_eq]
    omega
  show lift (if (sm62 i && sm62 j) = true then some (rngD i j) else none) st2 = _
  rw [if_pos this]
  show Res.ok (rngD i j) st2 = _
  congr 1
  simp [rgI, rngD]
/-! ### loops that put together a list -/
def Keep (W : List Nat) (env e : En) : Prop := ∀ i, W.contains i = false → e i = env i
section
variable {W : List Nat} {env e e2 : En}
theorem Keep.refl : Keep W env env := fun _ _ => rfl
theorem Keep.trans (h : Keep W env e) (g : Keep W e e2) : Keep W env e2 := fun i hi => (g i hi).trans (h i hi)
theorem Keep.put {j : Nat} {a : Bool} {x : D} (h : Keep W env e) (hj : W.contains j = true := by rfl) : Keep W env (e.put j a x) := fun i hi => put_no (h i hi) (by
  cases q : i == j with
  | false => rfl
  | true =>
    rw [beq_iff_eq] at q
    subst q
    rw [hj] at hi; cases hi)
theorem Keep.mono {V : List Nat} (h : Keep W env e) (hs : ∀ i, V.contains i = false → W.contains i = false) : Keep V env e := fun i hi => h i (hs i hi)
end
section
variable {α : Type} {it : Lx} {g : Gx} {b : Sx} {env : En} {st st1 : Store} {W : List Nat}
theorem for_coll {s : Nat} (xs : List α) (enc : α → D) (f : α → List D) (acc0 : List D) (hi : it env st = .ok (xs.map enc) st1) (h0 : env s = some (true, .lst acc0))
    (step : ∀ x ∈ xs, ∀ (e : En) (acc : List D), Keep W env e → e s = some (true, .lst acc) → acc.length + (f x).length ≤ acc0.length + (xs.flatMap f).length → ∃ e1 e2, g (enc x) e = some e1 ∧ b e1 st1 = .ok (.nx e2) st1 ∧ e2 s = some (true, .lst (acc ++ f x)) ∧ Keep W env e2) :
    ∃ e', sFor it g b env st = .ok (.nx e') st1 ∧ e' s = some (true, .lst (acc0 ++ xs.flatMap f)) ∧ Keep W env e' := by
  obtain ⟨e', s', h1, h2, h3, h4⟩ := sFor_run (g := g) (b := b) (I := fun i e s1 => s1 = st1 ∧ e s = some (true, .lst (acc0 ++ (xs.take i).flatMap f)) ∧ Keep W env e) (xs.map enc) hi ⟨rfl, by simpa using h0, .refl⟩ (by
    rintro i d e s1 hd ⟨rfl, h3, h4⟩
    obtain ⟨hi, hd⟩ := List.getElem?_eq_some_iff.mp hd
    rw [List.length_map] at hi
    have hd' : d = enc xs[i] := by rw [← hd]; simp
    subst hd'
    have e0 : (xs.take (i + 1)).flatMap f = (xs.take i).flatMap f ++ f xs[i] := by
      rw [List.take_succ_eq_append_getElem hi, List.flatMap_append]; simp
    have le : ((xs.take (i + 1)).flatMap f).length ≤ (xs.flatMap f).length := by
      conv => rhs; rw [← List.take_append_drop (i + 1) xs, List.flatMap_append, List.length_append]
      omega
    rw [e0, List.length_append] at le
    obtain ⟨e1, e2, g1, g2, g3, g4⟩ := step xs[i] (List.getElem_mem hi) e _ h4 h3 (by rw [List.length_append]; omega)
    exact ⟨_, _, _, g1, g2, rfl, by rw [g3, e0, List.append_assoc], g4⟩)
  subst h2
  rw [List.length_map, List.take_length] at h3
  exact ⟨e', h1, h3, h4⟩
/-- two lists at once -/
theorem for_coll2 {s t : Nat} (xs : List α) (enc : α → D) (f k : α → List D) (a0 b0 : List D) (hi : it env st = .ok (xs.map enc) st1) (h0 : env s = some (true, .lst a0)) (h00 : env t = some (true, .lst b0))
    (step : ∀ x ∈ xs, ∀ (e : En) (a c : List D), Keep W env e → e s = some (true, .lst a) → e t = some (true, .lst c) → a.length + (f x).length ≤ a0.length + (xs.flatMap f).length → c.length + (k x).length ≤ b0.length + (xs.flatMap k).length →
      ∃ e1 e2, g (enc x) e = some e1 ∧ b e1 st1 = .ok (.nx e2) st1 ∧ e2 s = some (true, .lst (a ++ f x)) ∧ e2 t = some (true, .lst (c ++ k x)) ∧ Keep W env e2) :
    ∃ e', sFor it g b env st = .ok (.nx e') st1 ∧ e' s = some (true, .lst (a0 ++ xs.flatMap f)) ∧ e' t = some (true, .lst (b0 ++ xs.flatMap k)) ∧ Keep W env e' := by
  obtain ⟨e', s', h1, h2, h3, h5, h4⟩ := sFor_run (g := g) (b := b) (I := fun i e s1 => s1 = st1 ∧ e s = some (true, .lst (a0 ++ (xs.take i).flatMap f)) ∧ e t = some (true, .lst (b0 ++ (xs.take i).flatMap k)) ∧ Keep W env e) (xs.map enc) hi ⟨rfl, by simpa using h0, by simpa using h00, .refl⟩ (by
    rintro i d e s1 hd ⟨rfl, h3, h5, h4⟩
    obtain ⟨hi, hd⟩ := List.getElem?_eq_some_iff.mp hd
    rw [List.length_map] at hi
    have hd' : d = enc xs[i] := by rw [← hd]; simp
    subst hd'
    have e0 : ∀ f : α → List D, (xs.take (i + 1)).flatMap f = (xs.take i).flatMap f ++ f xs[i] := fun f => by
      rw [List.take_succ_eq_append_getElem hi, List.flatMap_append]; simp
    have le : ∀ f : α → List D, ((xs.take i).flatMap f).length + (f xs[i]).length ≤ (xs.flatMap f).length := fun f => by
      rw [← List.length_append, ← e0]
      conv => rhs; rw [← List.take_append_drop (i + 1) xs, List.flatMap_append, List.length_append]
      omega
    have le1 := le f
    have le2 := le k
    obtain ⟨e1, e2, g1, g2, g3, g5, g4⟩ := step xs[i] (List.getElem_mem hi) e _ _ h4 h3 h5 (by rw [List.length_append]; omega) (by rw [List.length_append]; omega)
    exact ⟨_, _, _, g1, g2, rfl, by rw [g3, e0, List.append_assoc], by rw [g5, e0, List.append_assoc], g4⟩)
  subst h2
  rw [List.length_map, List.take_length] at h3 h5
  exact ⟨e', h1, h3, h5, h4⟩
end
/-- a loop that looks for the first -/
theorem for_find {α : Type} {it : Lx} {g : Gx} {b : Sx} {env : En} {st st1 : Store} {W : List Nat} (xs : List α) (enc : α → D) (p : α → Bool) (r : α → D) (hi : it env st = .ok (xs.map enc) st1)
    (step : ∀ x ∈ xs, ∀ e : En, Keep W env e → ∃ e1, g (enc x) e = some e1 ∧ (p x = true → b e1 st1 = .ok (.rt (r x)) st1) ∧ (p x = false → ∃ e2, b e1 st1 = .ok (.nx e2) st1 ∧ Keep W env e2)) :
    (∀ x, xs.find? p = some x → sFor it g b env st = .ok (.rt (r x)) st1) ∧ (xs.find? p = none → ∃ e', sFor it g b env st = .ok (.nx e') st1 ∧ Keep W env e') := by
  have main : ∀ (xs : List α), (∀ x ∈ xs, ∀ e : En, Keep W env e → ∃ e1, g (enc x) e = some e1 ∧ (p x = true → b e1 st1 = .ok (.rt (r x)) st1) ∧ (p x = false → ∃ e2, b e1 st1 = .ok (.nx e2) st1 ∧ Keep W env e2)) → ∀ e : En, Keep W env e →
      (∀ x, xs.find? p = some x → forS g b (xs.map enc) e st1 = .ok (.rt (r x)) st1) ∧ (xs.find? p = none → ∃ e', forS g b (xs.map enc) e st1 = .ok (.nx e') st1 ∧ Keep W env e') := by
    intro xs
    induction xs with
    | nil => exact fun _ e h => ⟨fun x q => (by cases q), fun _ => ⟨e, rfl, h⟩⟩
    | cons y ys ih =>
      intro st e h
      obtain ⟨e1, h1, h2, h3⟩ := st y List.mem_cons_self e h
      rw [List.map_cons]
      unfold forS
      simp only [h1]
      cases q : p y with
      | true =>
        rw [List.find?_cons_of_pos q]
        refine ⟨fun x z => ?_, fun z => by cases z⟩
        cases z
        rw [bnd_eq (h2 q)]
        rfl
      | false =>
        obtain ⟨e2, h4, h5⟩ := h3 q
        rw [List.find?_cons_of_neg (by simp [q]), bnd_eq h4]
        exact ih (fun x hx => st x (List.mem_cons_of_mem _ hx)) e2 h5
  unfold sFor
  rw [bnd_eq hi]
  exact main xs step env .refl
/-! ### the least by a row of numbers -/
def am {α : Type} (k : α → List Int) (x : α) (xs : List α) : α := xs.foldl (fun m y => if lexB (k y) (k m) = true then y else m) x
theorem minF_key {α : Type} {k : α → List Int} {enc : α → D} (h : ∀ a b, D.lt (enc a) (enc b) = lexB (k a) (k b)) : ∀ (xs : List α) (x : α), minF (enc x) (xs.map enc) = enc (am k x xs)
  | [], x => rfl
  | y :: xs, x => by
    unfold minF am
    rw [List.map_cons, List.foldl_cons, List.foldl_cons, h]
    by_cases q : lexB (k y) (k x) = true
    · rw [if_pos q, if_pos q]; exact minF_key h xs y
    · rw [if_neg q, if_neg q]; exact minF_key h xs x
theorem am_mem {α : Type} {k : α → List Int} : ∀ (xs : List α) (x : α), am k x xs ∈ x :: xs
  | [], x => by simp [am]
  | y :: xs, x => by
    have e : am k x (y :: xs) = am k (if lexB (k y) (k x) = true then y else x) xs := rfl
    have := am_mem (k := k) xs (if lexB (k y) (k x) = true then y else x)
    rw [e]
    rcases List.mem_cons.mp this with z | z
    · rw [z]
      by_cases q : lexB (k y) (k x) = true
      · rw [if_pos q]; simp
      · rw [if_neg q]; simp
    · exact List.mem_cons_of_mem _ (List.mem_cons_of_mem _ z)
theorem am_le {α : Type} {k : α → List Int} : ∀ (xs : List α) (x : α), ∀ y ∈ x :: xs, lexB (k y) (k (am k x xs)) = false
  | [], x, y, h => by rw [List.mem_singleton.mp h]; exact lexB_self _
  | z :: xs, x, y, h => by
    have e : am k x (z :: xs) = am k (if lexB (k z) (k x) = true then z else x) xs := rfl
    have ih := am_le (k := k) xs (if lexB (k z) (k x) = true then z else x)
    rw [e]
    generalize hw : (if lexB (k z) (k x) = true then z else x) = w at ih ⊢
    have hwm := ih w List.mem_cons_self
    have up : ∀ u, lexB (k u) (k w) = false → lexB (k u) (k (am k w xs)) = false := fun u hu => by
      cases q : lexB (k u) (k (am k w xs)) with
      | false => rfl
      | true =>
        by_cases r : lexB (k w) (k u) = true
        · rw [lexB_trans _ _ _ r q] at hwm; cases hwm
        · rw [lexB_conn _ _ hu (by simpa using r)] at q
          rw [q] at hwm; cases hwm
    rcases List.mem_cons.mp h with q | q
    · rw [q]
      refine up x ?_
      rw [← hw]
      by_cases r : lexB (k z) (k x) = true
      · rw [if_pos r]; exact lexB_asym _ _ r
      · rw [if_neg r]; exact lexB_self _
    · rcases List.mem_cons.mp q with q | q
      · rw [q]
        refine up z ?_
        rw [← hw]
        by_cases r : lexB (k z) (k x) = true
        · rw [if_pos r]; exact lexB_self _
        · rw [if_neg r]; simpa using r
      · exact ih y (List.mem_cons_of_mem _ q)
theorem eqv_tN : ∀ a b : List Int, D.eqv (tN a) (tN b) = decide (a = b) := fun a b => by
  have : ∀ a b : List Int, PyData.eqvAll (pyL (a.map .int)) (pyL (b.map .int)) = decide (a = b) := by
    intro a
    induction a with
    | nil => intro b; cases b <;> rfl
    | cons x a ih =>
      intro b
      cases b with
      | nil => rfl
      | cons y b =>
        simp only [List.map_cons, pyL, D.py, PyData.eqvAll, PyData.eqv, ih]
        rw [Bool.eq_iff_iff]
        simp
  exact this a b
theorem lt_pair (a b : Int) (m o : List Int) : D.lt (.tup [.int a, tN m]) (.tup [.int b, tN o]) = lexB (a :: m) (b :: o) := by
  have := PySem.W.dataLt_pair (alike_int a b) (alike_tI m o)
  unfold D.lt
  show PySem.W.dataLt (.tuple [(D.int a).py, (tI m).py]) (.tuple [(D.int b).py, (tI o).py]) = _
  have e1 : PyData.eqv (D.int a).py (D.int b).py = decide (a = b) := eqv_int
  have e2 : PyData.eqv (tI m).py (tI o).py = decide (m = o) := eqv_tN m o
  have e3 : PySem.W.dataLt (tI m).py (tI o).py = lexB m o := lt_tN m o
  have e4 : PySem.W.dataLt (D.int a).py (D.int b).py = decide (a < b) := lt_int'
  rw [this, e1, e2, e3, e4, lexB]
  by_cases q : a = b
  · simp only [q, decide_true, if_true]
    by_cases r : m = o
    · rw [r, lexB_self]; simp
    · simp [r]
  · simp [q]
theorem alkL_tN (xs : List (List Int)) : alkL (xs.map tN) = true := by
  unfold alkL
  rw [shpL_all]
  simp only [List.all_map, Bool.and_eq_true, List.all_eq_true, Function.comp]
  exact ⟨fun x _ => by simp, fun x _ => ⟨rfl, fun y _ => alike_tI _ _⟩⟩
theorem sortD_tN {l c : List (List Int)} (hne : ∀ a ∈ l, a ≠ []) (hp : c.Perm l) (hs : c.Pairwise fun a b => lexB a b = true) : sortD (.lst (l.map tN)) = some (.lst (c.map tN)) := by
  have e : srtOk (l.map tN) = true := by
    unfold srtOk
    rw [alkL_tN]
    have : (l.map tN).all isTp = true := by
      rw [List.all_map, List.all_eq_true]
      intro x hx
      cases x with
      | nil => exact absurd rfl (hne _ hx)
      | cons a x => rfl
    rw [this]
    rfl
  unfold sortD
  show (if srtOk (l.map tN) = true then some (D.lst (sortL (l.map tN))) else none) = _
  rw [if_pos e]
  congr 2
  unfold sortL
  have h1 := (List.map_mergeSort (r := fun a b => !lexB b a) (s := fun a b => !D.lt b a) (f := tN) (l := l) (fun a _ b _ => by rw [lt_tN]))
  rw [← ms_eq (le := fun a b => !lexB b a) (k := id) (fun _ _ => rfl) hp hs (fun a _ b _ e => e)]
  exact h1.symm
end Sm


set_option Elab.async false
set_option linter.all false
set_option maxRecDepth 100000
set_option maxHeartbeats 1000000
/-! Sm27: C(), where C's own __init__ says super().__init__() alone. -/
namespace Sm
open PySem PySem.Spec L2
open PySem.W (Frag clsIn findIn subIn typeIn mroIn nsIn keepIn codeIn hasDictIn specialIn takesIn exmOne)
/-- what is told of such a class; its __init__'s text -/
structure SupC (P : Program) (K : Frag) (C fI cda cc : Addr) (qual : Str) (params : Arguments) (body : List Stmt) (scope : Scope) : Prop where
  q : PySem.W.excInitIn K C He.veBase "ValueError.__new__" = true
  iC : findIn K (.ref C) "__init__" = some (some (.ref fI))
  tI : typeIn K (.ref fI) = some (.type "function")
  fn : ∃ oc od osl kV doc pm an ct, K.lookup fI = some ⟨oc, od, .func (PySem.W.ksFn "__init__" qual params body scope .none kV doc pm an (.ref cda) ct cc), osl⟩
  cd : codeIn K (.ref cda) qual = true
  file : ∃ ccl cdd vs ccs file tf, K.lookup cda = some ⟨ccl, cdd, .fields vs, ccs⟩ ∧ vs[2]? = some (.str file tf) ∧ ((P.main.file : Str) == file) = true
  cell : ∃ cl cld csl, K.lookup cc = some ⟨cl, cld, .cell (some (.ref C)), csl⟩
  cls : ∃ cd, clsIn K C = some cd
  sub : mroIn K C (.ref C) = some true
  along : PySem.W.ks_superIn K C C "__init__" = some (some (.builtin "ValueError.__init__"))
  ve : subIn K (.ref C) (.type "ValueError") = some true
  noSup : nsIn K mainGlobals "super" = some none
  noThird : nsIn K cStatics "thirdparty.any" = some none
  keep : keepIn K (.ref C) = true
  be : subIn K (.ref C) (.type "BaseException") = some true
  ty : typeIn K (.ref C) = some (.type "type")
  top : (P.main.scope.names.lookup ("super" : Str)).isSome = false
/-- the text of such an __init__ -/
structure SupT (qual : Str) (params : Arguments) (body : List Stmt) (scope : Scope) : Prop where
  co : scope.isCoroutine = false
  gen : scope.isGenerator = false
  kind : scope.kind = .function
  self : scope.names.lookup ("self" : Str) = some .local
  sup : scope.names.lookup ("super" : Str) = some .globalImplicit
  cls : scope.names.lookup ("__class__" : Str) = some .free
  noCell : ∀ x ∈ scope.names, x.2 ≠ .cell
  first : ∃ ar : Arg, (params.posonlyargs ++ params.args).head? = some ar ∧ ar.arg = "self"
  bind : ∀ (kV doc pm : Value) (an : Option Addr) (cdv ct : Value) (cc : Addr) (u : Value), bindArgs (PySem.W.ksFn "__init__" qual params body scope .none kV doc pm an cdv ct cc) ⟨[u], []⟩ = pure [(("self" : Str), u)]
  body : ∃ (p0 p1 p2 p3 p4 : Pos), body = [.Expr (.Call (.Attribute (.Call (.Name "super" p0) [] [] p1) "__init__" p2) [] [] p3) p4] ∧
    ∀ (L a cc : Addr) (cdv : Value), interactive (PySem.W.ksEnv qual scope L a cdv cc) = false ∧ swapsWith (.Call (.Attribute (.Call (.Name "super" p0) [] [] p1) "__init__" p2) [] [] p3) none p4.line (PySem.W.ksEnv qual scope L a cdv cc) = pure false ∧ ∃ pl : Sem Bool,
      eval (.Call (.Attribute (.Call (.Name "super" p0) [] [] p1) "__init__" p2) [] [] p3) (PySem.W.ksEnv qual scope L a cdv cc) = (do
        let ov ← attributeBase (.Call (.Name "super" p0) [] [] p1) "__init__" (PySem.W.ksEnv qual scope L a cdv cc) (eval (.Call (.Name "super" p0) [] [] p1) (PySem.W.ksEnv qual scope L a cdv cc))
        standAt p2.atName
        let (f, first) ← holding [ov] (getMethod ov "__init__" pl)
        callWith p3 f first (backTo p3 (starEach [] (PySem.W.ksEnv qual scope L a cdv cc))) [])
section
open PySem.W PySem.Calls PyProof.Rows
variable {P : Program} {w : World} {K : Frag} {C fI cda cc : Addr} {qual : Str} {params : Arguments} {body : List Stmt} {scope : Scope} {A : Around} {R : Result → Shared → Prop} {s : Shared} {e t0 : Addr} {mg mb : Str → Option Value}
theorem init0 (T : SupC P K C fI cda cc qual params body scope) (X : SupT qual params body scope) (KX : K.In s.heap) (hg : s.heap.Ns mainGlobals mg) (hb : s.heap.Ns builtinsNs mb) (hbb : ∀ x : Str, x ≠ "__name__" → mb x = bootBuiltins x) (hlim : s.heap.NoLimit)
    (hr : A.depth < recursionLimit) (he : s.heap.get? e = some (PySem.HandSPX.excO C t0))
    (h : ∀ h' tk, (∀ b o, b ≠ e → s.heap.get? b = some o → h'.get? b = some o) → (∃ t1, h'.get? e = some (PySem.HandSPX.excO C t1)) → R (.ok (.ret .none)) { s with heap := h', toks := tk }) :
    codeAny (model P w) A (.call (.ref fI) ⟨[.ref e], []⟩) R s := by
  obtain ⟨oc, od, osl, kV, doc, pm, an, ct, ho⟩ := T.fn
  obtain ⟨ccl, cdd, vs, ccs, file, tf, hcode, hvs, hfile⟩ := T.file
  obtain ⟨cl, cld, csl, hcell⟩ := T.cell
  obtain ⟨cdC, hcls⟩ := T.cls
  obtain ⟨ar, har, hself⟩ := X.first
  obtain ⟨p0, p1, p2, p3, p4, hbody, hev⟩ := X.body
  subst hbody
  refine ks_codeAny_call_defAt (fd := ksFn "__init__" qual params _ scope .none kV doc pm an (.ref cda) ct cc) (body := _) (binds := [("self", .ref e)]) hr (KX _ _ ho) rfl hlim (codeRec_of KX T.cd) rfl (BindsTo.of_eq (X.bind _ _ _ _ _ _ _ _)) X.noCell (fun x hx => by
    rw [List.mem_singleton.mp hx]; exact X.self) (fun h₁ hns hk₁ => ?_) X.co X.gen X.kind
  obtain ⟨hp, g, d, t, os⟩ := s
  obtain ⟨hi, hsw, pl, heq⟩ := hev hp.objs.size fI cc (.ref cda)
  have K1 : K.In h₁ := fun b o z => hk₁ b o (KX b o z)
  have he1 : h₁.get? e = some (PySem.HandSPX.excO C t0) := hk₁ _ _ he
  have g1 : h₁.Ns mainGlobals mg := hg.keeps hk₁
  have b1 : h₁.Ns builtinsNs mb := hb.keeps hk₁
  obtain ⟨oD, hD1, hD2⟩ : ∃ oD, h₁.get? C = some oD ∧ oD.data = .cls cdC := by
    have z := hcls
    unfold clsIn at z
    split at z
    · rename_i c d cd' sl ho
      cases z
      exact ⟨_, K1 _ _ ho, rfl⟩
    · cases z
  refine ks_wpAt_execs_cons (ks_wpAt_Expr_any (ks_wpAt_MethodCall (pl := pl) ?_ heq) hi hsw)
  refine ks_wpAt_super_base (env := ksEnv qual scope hp.objs.size fI (.ref cda) cc) X.sup X.cls (by decide) rfl (K1 _ _ ho) rfl har rfl (K1 _ _ hcode) rfl hvs hfile T.top ?_
  refine ks_loadName_global X.kind X.sup (loadGlobal_builtin (env := ksEnv qual scope hp.objs.size fI (.ref cda) cc) g1 (mg_none_of KX hg T.noSup) b1 ((hbb _ (by decide +kernel)).trans PyProof.Rows.Boot.super) ⟨rfl, ?_⟩)
  refine wpAny_loadName_free X.kind X.cls rfl ⟨_, K1 _ _ hcell, rfl⟩ ?_
  rw [hself]
  refine wpAny_loadName_local X.kind X.self hns rfl ?_
  refine ks_wpAny_isType_cls hD1 hD2 ⟨rfl, ?_⟩
  refine ks_wpAny_call_super hD1 hD2 he1 rfl (fun c z => by cases z) (looks_mroIn K1 T.sub) (fun h2 hso k2 => ?_)
  have K2 : K.In h2 := fun b o z => k2 b o (K1 b o z)
  have he2 : h2.get? e = some (PySem.HandSPX.excO C t0) := k2 _ _ he1
  have I2 : InstAt h2 e (PySem.HandSPX.excO C t0) C none := ⟨he2, rfl, rfl, trivial⟩
  have ha := T.along
  unfold ks_superIn at ha
  rw [hcls] at ha
  have hne : e ≠ C := ks_ne K2 I2 hcls
  refine kxs_getMethod kxs_ValueError hso (looks_opaque K2 T.noThird) (l₀ := cdC.mro) ?_ rfl K2 ha (I2.type.andThen (looks_subIn K2 T.ve)) hne (by decide) ?_
  · exact fun A Q E s k q => wpAny_bind ((looks_clsIn K2 hcls) A _ E s k (wpAny_pure q))
  have hu : (h2.push (kxs_mw "ValueError.__init__" e)).get? h2.objs.size = some (kxs_mw "ValueError.__init__" e) := Heap.get?_push_at rfl rfl
  refine kxs_callWith (i := "ValueError.__init__") (x := e) rfl (evalArgs_empty ⟨hu, ?_⟩)
  have he3 : (h2.push (kxs_mw "ValueError.__init__" e)).get? e = some (PySem.HandSPX.excO C t0) := Heap.get?_push_of_some _ he2
  have K3 : K.In (h2.push (kxs_mw "ValueError.__init__" e)) := fun b o z => Heap.get?_push_of_some _ (K2 b o z)
  obtain ⟨nm, N', qn, bs, bm, hdct, sn, sub, ab, col, dd, k0, k1, k2', k3, k5, hC, hT⟩ := excInit_of K3 T.q
  refine wpAny_call (codeAny_of_tree ?_)
  show wpAny _ _ (callAny (.ref h2.objs.size) ⟨[], []⟩) _ _ _
  simp only [callAny]
  refine wpAny_bind (wpAny_load hu ?_)
  simp only [kxs_mw, show (Value.type "method-wrapper" == Value.type "method" || Value.type "method-wrapper" == Value.type "builtin_function_or_method" || Value.type "method-wrapper" == Value.type "method-wrapper") = true by decide, if_true]
  refine KFB.if_so (by decide) ?_
  refine wpAny_bind (check_bound_init F.excBase_ValueError.toExcCallFacts hC he3 rfl ?_)
  refine wpAny_bind (wpAny_pure (wpAny_pure ?_))
  refine ⟨plainId_quiet F.excBase_ValueError.init.plain _, codeAny_builtin F.excBase_ValueError.initEntry ?_⟩
  refine exc_init_tree (cls := .ref C) (t0 := t0) (dv := none) (c2 := .none) (c3 := .none) (b4 := .bool false) he3 (by show 0 ≤ sizeLine; exact Nat.zero_le _) fun h4 k4 e4 _ => ?_
  show _root_.PySem.wpAt _ _ _ (execs [] _) _ _ _
  refine _root_.PySem.wpAt_of_wpAny (wpAny_execs_nil ?_)
  exact h h4 _ (fun b o hb z => k4 b o hb (Heap.get?_push_of_some _ (k2 _ _ (hk₁ _ _ z)))) ⟨_, e4⟩
end
end Sm


set_option Elab.async false
set_option linter.all false
set_option maxRecDepth 100000
set_option maxHeartbeats 1000000
/-! Sm28: raise C(); try: e except C as x: .. -/
namespace Sm
open PySem PySem.Spec L2
section
variable {X : Cx} {k : Nat} {C fI cda cc : Addr} {qual : Str} {params : Arguments} {body : List Stmt} {scope : Scope} {x : Str} {p pos : Pos}
theorem pmk_sup (T : SupC X.prog X.K C fI cda cc qual params body scope) (XT : SupT qual params body scope) (hg : Gl X x) (gC : X.mg x = some (.ref C)) (hr : Room (k + 1) X.A) (hdb : (x == ("__debug__" : Str)) = false := by decide) :
    PMk X (.Call (.Name x p) [] [] pos) (fun _ H Q => Q (.ref C) none H) := by
  intro pins s σ H Q I h
  refine wpAny_Call_Name_kw (ld_glob I hg gC ?_ hdb)
  refine PySem.W.callWith_K0 I.kIn T.keep ?_
  have KX := I.kIn
  have hG : s.heap.Ns mainGlobals X.mg := I.mod.glob.keeps I.bk
  obtain ⟨mb, hb0, hbb⟩ := I.mod.blt
  have hB : s.heap.Ns builtinsNs mb := hb0.keeps I.bk
  have hL := I.nolimit
  obtain ⟨nm, N', qn, bs, bm, hdct, sn, sub, ab, col, dd, k0, k1, k2, k3, k5, hC, hT⟩ := PySem.W.excInit_of KX T.q
  obtain ⟨hp, g, dr, tk, os⟩ := s
  have kk : ∀ b o, hp.get? b = some o → ((hp.push (PySem.W.kdv_tup [])).push (PySem.HandSPX.excO C hp.objs.size)).get? b = some o := fun b o e => Heap.get?_push_of_some _ (Heap.get?_push_of_some _ e)
  have hget : ((hp.push (PySem.W.kdv_tup [])).push (PySem.HandSPX.excO C hp.objs.size)).get? (hp.objs.size + 1) = some (PySem.HandSPX.excO C hp.objs.size) := by heap_get
  have gone : hp.get? (hp.objs.size + 1) = none := by
    cases q : hp.get? (hp.objs.size + 1) with
    | none => rfl
    | some o => exact absurd (Heap.lt_size q) (Nat.not_lt.mpr (Nat.le_succ _))
  refine wpAny_call (PySem.HandSPX.call_own PySem.F.excBase_ValueError hT hC (PySem.W.looks_findIn KX T.iC) (fun self => PySem.W.bind_fn KX self T.tI) (Nat.zero_le _)
    (init0 (e := hp.objs.size + 1) T XT (fun b o e => kk b o (KX b o e)) (hG.keeps kk) (hB.keeps kk) hbb (hL.keeps kk) (hr.make C [] []).depth hget fun h' tk' k' ⟨t1, e1⟩ => ⟨rfl, ?_⟩))
  refine ⟨hp.objs.size + 1, _, _, ⟨hp, g, dr, tk, os⟩, H, .ref C, none, rfl, I, fun b o e => k' b o (Nat.ne_of_lt (Nat.lt_succ_of_lt (Heap.lt_size (show hp.get? b = some o from e)))) (kk b o e), gone, e1, ⟨rfl, rfl⟩, rfl, rfl, I.hok.fresh (Nat.le_succ _), rfl, I.bare, raises_own T.be T.ty, h⟩
end
/-- raise C() -/
def sRaise (c : Str) : Sx := fun _ st => .exc c [] st
theorem ss_raise {C : Cn} {κ : Kd} {k : Nat} {Ca fI cda cc : Addr} {qual : Str} {params : Arguments} {body : List Stmt} {scope : Scope} {c : Str} {p pos pos' : Pos} (G : Gd C (k + 1)) (T : SupC C.X.prog C.X.K Ca fI cda cc qual params body scope) (XT : SupT qual params body scope)
    (gC : C.X.mg c = some (.ref Ca)) (hg : Gl C.X c) (hdb : (c == ("__debug__" : Str)) = false := by decide) : SS C κ (.Raise (some (.Call (.Name c p) [] [] pos)) none pos') (sRaise c) :=
  PS.imp (ps_raise G.calm G.tk (pmk_sup T XT hg gC G.room hdb)) fun D σ H ⟨env, W, st, e, R, o⟩ => by
    subst e
    exact (show (∀ cl d W' σ', Ext C.W0 W' → C.ok W' st → Bears C W' c [] cl d → C.Wx (.ref cl) d σ' W'.H) from o) Ca none W σ R.ext R.ok ⟨gC, rfl⟩
/-! ### try -/
def En.no (e : En) (i : Nat) : En := fun j => if j = i then none else e j
def Fl.no (i : Nat) : Fl → Fl
  | .nx e => .nx (e.no i)
  | .rt d => .rt d
open Classical in
/-- try: m, except .. as i: h c, c the class; what h does may not hang on where the exception lies -/
noncomputable def sTry (m : Ex) (i : Nat) (cs : List Str) (h : Str → Addr → Sx) : Sx := fun env st => match m env st with
  | .ok _ st' => .ok (.nx env) st'
  | .exc c [] st' => if hh : c ∈ cs ∧ ∃ p : Fl × Store, ∀ a, ∃ f, h c a (env.put i false (.raw a)) st' = .ok f p.2 ∧ f.no i = p.1 then .ok (Classical.choose hh.2).1 (Classical.choose hh.2).2 else .stuck
  | _ => .stuck
theorem ev_tryOk {m : Ex} {i : Nat} {cs : List Str} {h : Str → Addr → Sx} {env : En} {st st1 : Store} {d : D} (e : m env st = .ok d st1) : sTry m i cs h env st = .ok (.nx env) st1 := by
  unfold sTry
  rw [e]
open Classical in
theorem ev_tryExc {m : Ex} {i : Nat} {cs : List Str} {h : Str → Addr → Sx} {env : En} {st st1 st2 : Store} {c : Str} {f : Fl} (e : m env st = .exc c [] st1) (hc : c ∈ cs) (hh : ∀ a, ∃ g, h c a (env.put i false (.raw a)) st1 = .ok g st2 ∧ g.no i = f) : sTry m i cs h env st = .ok f st2 := by
  unfold sTry
  rw [e]
  have z : c ∈ cs ∧ ∃ p : Fl × Store, ∀ a, ∃ f, h c a (env.put i false (.raw a)) st1 = .ok f p.2 ∧ f.no i = p.1 := ⟨hc, (f, st2), hh⟩
  show (if hh : _ then _ else _) = _
  rw [dif_pos z]
  obtain ⟨g, h1, h2⟩ := Classical.choose_spec z.2 0
  obtain ⟨g', h3, h4⟩ := hh 0
  rw [h1] at h3
  injection h3 with h5 h6
  rw [← h2, h6, h5, h4]
theorem outS_same {C C' : Cn} {κ : Kd} {D : Ends} {W : Wd} {r : Res Fl} (hs : ∀ env W st σ, SR C' env W st σ → SR C env W st σ) (hr : ∀ cl d st σ c fs, (∀ W', Ext C'.W0 W' → C'.ok W' st → Bears C' W' c fs cl d → Ext C.W0 W' ∧ C.ok W' st ∧ Bears C W' c fs cl d ∧ (C.Wx (.ref cl) d σ W'.H → C'.Wx (.ref cl) d σ W'.H)))
    (hv : ∀ d v W' st', Ext C'.W0 W' → C'.ok W' st' → C'.rk κ C'.W0 W' d v → Ext C.W0 W' ∧ C.ok W' st' ∧ C.rk κ C.W0 W' d v) (o : OutS C r (kFl C κ D W)) : OutS C' r (kFl C' κ D W) := by
  cases r with
  | ok f st => cases f with
    | nx e => exact fun σ' W' R' l => (show kFl C κ D W (.nx e) st from o) σ' W' (hs _ _ _ _ R') l
    | rt d => exact fun v W' e k r => let ⟨h1, h2, h3⟩ := hv d v W' st e k r; (show kFl C κ D W (.rt d) st from o) v W' h1 h2 h3
  | exc c fs st => exact fun cl d W' σ' e k b => let ⟨h1, h2, h3, h4⟩ := hr cl d st σ' c fs W' e k b; h4 (o cl d W' σ' h1 h2 h3)
  | stuck => exact o
/-- the suite's context -/
abbrev Cn.su (C : Cn) (a : Addr) (oe : Obj) (pn : List (Addr × Obj)) : Cn := { X := C.X.suite a ((a, oe) :: pn), W0 := C.W0, Wx := fun _ _ _ _ => False }
abbrev Cn.tr (C : Cn) (W : WX) (pn : List (Addr × Obj)) (xe : Value → Shared → Prop) : Cn := { X := C.X.tr pn xe, W0 := C.W0, Wx := W }
theorem SR.noS {C : Cn} {env : En} {W : Wd} {st : Store} {σ : L2.St} (R : SR C env W st σ) (i : Nat) : SR C (env.no i) W st (σ.set i none) := by
  have n : ∀ {j p}, env.no i j = some p → j ≠ i ∧ env j = some p := fun {j p} h => by
    unfold En.no at h
    by_cases q : j = i
    · rw [if_pos q] at h; cases h
    · rw [if_neg q] at h; exact ⟨q, h⟩
  have s : ∀ {j : Nat} {v}, j ≠ i → (σ.set i none)[j]? = v → σ[j]? = v := fun {j v} hn h => by
    rw [List.getElem?_set_ne (Ne.symm hn)] at h; exact h
  refine ⟨R.ext, by rw [List.length_set]; exact R.len, R.ok, fun j b d h => ?_, fun j l d e a hjl hj hl h1 h2 => R.dis j l d e a hjl (n hj).2 (n hl).2 (s (n hj).1 h1) (s (n hl).1 h2)⟩
  obtain ⟨hn, h⟩ := n h
  obtain ⟨v, h1, h2⟩ := R.slot j b d h
  exact ⟨v, by rw [List.getElem?_set_ne (Ne.symm hn)]; exact h1, h2⟩
theorem SR.raw {C : Cn} {env : En} {W : Wd} {st : Store} {σ : L2.St} {i : Nat} {a : Addr} (R : SR C env W st σ) (hi : i < C.X.N.length) : SR C (env.put i false (.raw a)) W st (σ.set i (some (.ref a))) := by
  have hl : i < σ.length := by rw [R.len]; exact hi
  have n : ∀ {j d}, env.put i false (.raw a) j = some (true, d) → j ≠ i ∧ env j = some (true, d) := fun {j d} h => by
    by_cases q : j = i
    · subst q; rw [put_same] at h; cases h
    · rw [put_ne q] at h; exact ⟨q, h⟩
  have s : ∀ {j : Nat} {v}, j ≠ i → (σ.set i (some (.ref a)))[j]? = v → σ[j]? = v := fun {j v} hn h => by
    rw [List.getElem?_set_ne (Ne.symm hn)] at h; exact h
  refine ⟨R.ext, by rw [List.length_set]; exact R.len, R.ok, fun j b d h => ?_, fun j l d e c hjl hj hl' h1 h2 => R.dis j l d e c hjl (n hj).2 (n hl').2 (s (n hj).1 h1) (s (n hl').1 h2)⟩
  by_cases q : j = i
  · subst q
    rw [put_same] at h
    cases h
    refine ⟨.ref a, List.getElem?_set_self hl, ?_⟩
    rw [if_neg Bool.false_ne_true]
    show Rp _ _ _ _ (.raw a) _
    simp only [Rp]
  · rw [put_ne q] at h
    obtain ⟨v, h1, h2⟩ := R.slot j b d h
    exact ⟨v, by rw [List.getElem?_set_ne (Ne.symm q)]; exact h1, h2⟩
section
variable {C : Cn} {κ κe : Kd} {k i : Nat} {x n : Str} {CE : Addr} {e : Expr} {m : Ex} {b₀ : Stmt} {suite : List Stmt} {h : Str → Addr → Sx} {cs : List Str} {np ep pos pos' : Pos}
open Classical in
theorem ss_try (G : Gd C k) (hs : C.X.stack = C.X.env :: C.X.outer) (hf : C.X.env.frame = some C.X.env.locals) (nm : Nm C i n) (hln : C.X.env.kindOf n = some .local) (hg : Gl C.X x) (gE : C.X.mg x = some (.ref CE))
    (he : ∀ (W : WX) (pn : List (Addr × Obj)) (xe : Value → Shared → Prop), Takes (C.X.tr pn xe) W → SE (C.tr W pn xe) κe e m)
    (hm : ∀ c ∈ cs, ∀ cl, C.X.mg c = some (.ref cl) → PySem.W.exmOne C.X.K (.ref cl) (.ref CE) = some true)
    (hsu : ∀ c ∈ cs, ∀ (cl a : Addr) (oe : Obj) (pn : List (Addr × Obj)), C.X.mg c = some (.ref cl) → Zc (.ref cl) none oe → (∃ vs, oe.data = .fields vs) → SSs (C.su a oe pn) κ (b₀ :: suite) (h c a))
    (hsw : ∀ (pn : List (Addr × Obj)) (xe : Value → Shared → Prop), swapsWith e none ep.line (C.X.tr pn xe).env = pure false := by intro _ _; rfl) (hdb : (x == ("__debug__" : Str)) = false := by decide) :
    SS C κ (.Try [.Expr e ep] [.ExceptHandler (some (.Name x np)) (some n) (b₀ :: suite) pos'] [] [] pos) (sTry m i cs h) := by
  refine PS.imp (ps_try_as (i := i) (c := .ref CE) (tb := fun W D σ H => TEo { X := C.X, W0 := C.W0, Wx := W } κe m σ H fun _ H' => D.nx σ H')
    (ts := fun a cls d D σ H => ∃ c ∈ cs, ∃ cl, C.X.mg c = some (.ref cl) ∧ cls = .ref cl ∧ d = none ∧ TSo { X := C.X, W0 := C.W0, Wx := fun _ _ _ _ => False } κ (h c a) D σ H) (Wout := fun _ _ _ _ => False)
    hs hf nm.nod nm.at_ hln ⟨hg, hdb, .inl gE⟩ takes0 (fun W pn xe tk _ => ?_) (fun a oe cls d pn hz hfl => ?_)) fun D σ H ⟨env, W, st, eH, R, o⟩ => ?_
  · refine pss_one ⟨fun pins s σ H D I hh => ?_⟩
    obtain ⟨env, W', st, e1, R, o⟩ := hh
    exact (ps_expr (he W pn xe tk) (hsw pn xe)).run pins s σ H D I ⟨env, W', st, e1, ⟨R.ext, R.len, R.ok, R.slot, R.dis⟩, o⟩
  · refine ⟨fun pins s σ H D I ⟨c, hc, cl, g1, g2, g3, hh⟩ => ?_⟩
    subst g2 g3
    obtain ⟨env, W', st, e1, R, o⟩ := hh
    exact (hsu c hc cl a oe pn g1 hz hfl).run pins s σ H D I ⟨env, W', st, e1, ⟨R.ext, R.len, R.ok, R.slot, R.dis⟩, outS_same (C := { X := C.X, W0 := C.W0, Wx := fun _ _ _ _ => False }) (C' := C.su a oe pn) (fun _ _ _ _ R => ⟨R.ext, R.len, R.ok, R.slot, R.dis⟩) (fun _ _ _ _ _ _ _ e k b => ⟨e, k, b, fun z => z⟩) (fun _ _ _ _ e k r => ⟨e, k, r⟩) o⟩
  · subst eH
    unfold sTry at o
    refine ⟨env, W, st, rfl, ⟨R.ext, R.len, R.ok, R.slot, R.dis⟩, ?_⟩
    cases q : m env st with
    | ok d st' =>
      rw [q] at o
      exact fun v W' e' k' r' => (show kFl C κ D W (.nx env) st' from o) σ W' (R.up e' k') e'.lat
    | stuck => rw [q] at o; exact False.elim o
    | exc c fs st' =>
      rw [q] at o
      cases fs with
      | cons f fs => exact False.elim o
      | nil =>
        intro cl d W' e' k' ⟨g1, g2⟩
        have g2 : d = none := g2
        subst g2
        have o' : OutS C (if hh : c ∈ cs ∧ ∃ p : Fl × Store, ∀ a, ∃ f, h c a (env.put i false (.raw a)) st' = .ok f p.2 ∧ f.no i = p.1 then Res.ok (Classical.choose hh.2).1 (Classical.choose hh.2).2 else .stuck) (kFl C κ D W) := o
        by_cases hh : c ∈ cs ∧ ∃ p : Fl × Store, ∀ a, ∃ f, h c a (env.put i false (.raw a)) st' = .ok f p.2 ∧ f.no i = p.1
        · rw [dif_pos hh] at o'
          have sp := Classical.choose_spec hh.2
          generalize Classical.choose hh.2 = p at o' sp
          refine ⟨true, hm c hh.1 cl g1, fun _ a na => ⟨c, hh.1, cl, g1, rfl, rfl, env.put i false (.raw a), W', st', rfl, ?_, ?_⟩, fun z => by cases z⟩
          · exact SR.raw (C := { X := C.X, W0 := C.W0, Wx := fun _ _ _ _ => False }) ⟨(R.up e' k').ext, R.len, k', (R.up e' k').slot, R.dis⟩ nm.lt
          · obtain ⟨f, h1, h2⟩ := sp a
            rw [h1]
            have o2 : kFl C κ D W p.1 p.2 := o'
            rw [← h2] at o2
            cases f with
            | nx env' =>
              intro σ2 W2 R2 l2
              have R2' : SR C env' W2 p.2 σ2 := ⟨R2.ext, R2.len, R2.ok, R2.slot, R2.dis⟩
              exact (show kFl C κ D W (.nx (env'.no i)) p.2 from o2) (σ2.set i none) W2 (R2'.noS i) (e'.lat.trans l2)
            | rt dd => exact (show kFl C κ D W (.rt dd) p.2 from o2)
        · rw [dif_neg hh] at o'; exact False.elim o'
end
end Sm


set_option Elab.async false
set_option linter.all false
set_option maxRecDepth 100000
set_option maxHeartbeats 1000000
/-! Sm29: isinstance of the exception caught; a parameter that holds a def, called. -/
namespace Sm
open PySem PySem.Spec L2
/-- slot i holds the object at a -/
def eIsE (i : Nat) (a : Addr) (b : Bool) : Ex := fun env => match env i with
  | some (false, .raw c) => if c = a then ret (.bl b) else halt
  | _ => halt
section
variable {C : Cn} {σ : L2.St} {W : Wd} {st : Store} {env : En} {i : Nat} {a : Addr} {b : Bool} {Q : D → Store → Prop}
theorem isE_go (R : SR C env W st σ) (o : Out C σ W (eIsE i a b env st) Q) : σ[i]? = some (some (.ref a)) ∧ Q (.bl b) st := by
  unfold eIsE at o
  cases q : env i with
  | none => rw [q] at o; exact False.elim o
  | some p =>
    obtain ⟨t, d⟩ := p
    rw [q] at o
    cases t with
    | true => exact False.elim o
    | false =>
      cases d with
      | raw c =>
        have o2 : Out C σ W ((if c = a then (ret (D.bl b) : M D) else halt) st) Q := o
        by_cases z : c = a
        · rw [if_pos z] at o2
          have o2 : Q (.bl b) st := o2
          clear o
          subst z
          obtain ⟨v, h1, h2⟩ := R.slot i false _ q
          rw [if_neg Bool.false_ne_true] at h2
          have h2 : Rp _ _ _ _ (.raw c) v := h2
          simp only [Rp] at h2
          exact ⟨h2 ▸ h1, o2⟩
        · rw [if_neg z] at o2; exact False.elim o2
      | _ => exact False.elim o
end
section
variable {C : Cn} {Ca a Cx : Addr} {oe : Obj} {pn : List (Addr × Obj)} {err x : Str} {i : Nat} {b : Bool} {p1 p2 p3 pos : Pos}
theorem isE_run {u2 : Value} {cv : V} (EC : ExcC C.X.K Ca) (hz : Zc (.ref Ca) none oe) (hf : ∃ vs, oe.data = .fields vs) (hN : C.X.N[i]? = some err) (hv : Vis C.X.env.scope err) (hg : Gl C.X "isinstance") (hm : C.X.mg "isinstance" = none)
    (hx : PE (C.X.suite a ((a, oe) :: pn)) (.Name x p3) (tC cv)) (hcv : ∀ u, RelV cv u → u = u2) (kt : PySem.W.kitOne C.X.K (.ref Ca) u2 = some b)
    (hd : (err == ("__debug__" : Str)) = false := by decide) (hcd : (err == ("__classdict__" : Str)) = false := by decide)
    (he : starEach ([.Name err p2, .Name x p3] : List Expr) (C.su a oe pn).X.env = (false, eval (.Name err p2) (C.su a oe pn).X.env) :: starEach [.Name x p3] (C.su a oe pn).X.env := by rfl) (he2 : starEach ([.Name x p3] : List Expr) (C.su a oe pn).X.env = [(false, eval (.Name x p3) (C.su a oe pn).X.env)] := by rfl)
    (hpl : (backTo pos (starEach ([.Name x p3] : List Expr) (C.su a oe pn).X.env)).any (·.1) = false := by rfl) : SE (C.su a oe pn) .froz (.Call (.Name "isinstance" p1) [.Name err p2, .Name x p3] [] pos) (eIsE i a b) :=
  SE.mk fun pins s σ env W st Q I R o => by
    obtain ⟨hs, hq⟩ := isE_go R o
    have hv' : Vis (C.su a oe pn).X.env.scope err := hv
    have ha : PA (C.su a oe pn).X [.Name err p2, .Name x p3] (tCons (tVar i) (tCons (tC cv) tNil)) := pa_cons (pe_var hN hv' hd hcd) (pa_cons hx pa_nil he2) he
    refine (pe_callB (X := (C.su a oe pn).X) (call_isE EC hz hf) hg hm PyProof.Rows.boot_isinstance ha (by decide) (by decide) he hpl).run pins s σ W.H Q I ?_
    refine ⟨.ref a, hs, cv, u2, b, rfl, hcv, kt, ?_⟩
    exact hq (.bl b) W (.refl W) R.ok (by simp [Cn.rk, RK, Rp])
theorem se_isE (EC : ExcC C.X.K Ca) (hz : Zc (.ref Ca) none oe) (hf : ∃ vs, oe.data = .fields vs) (hN : C.X.N[i]? = some err) (hv : Vis C.X.env.scope err) (hg : Gl C.X "isinstance") (hm : C.X.mg "isinstance" = none) (hgx : Gl C.X x) (gx : C.X.mg x = some (.ref Cx))
    (kt : PySem.W.kitOne C.X.K (.ref Ca) (.ref Cx) = some b) (hd : (err == ("__debug__" : Str)) = false := by decide) (hcd : (err == ("__classdict__" : Str)) = false := by decide) (hdx : (x == ("__debug__" : Str)) = false := by decide)
    (he : starEach ([.Name err p2, .Name x p3] : List Expr) (C.su a oe pn).X.env = (false, eval (.Name err p2) (C.su a oe pn).X.env) :: starEach [.Name x p3] (C.su a oe pn).X.env := by rfl) (he2 : starEach ([.Name x p3] : List Expr) (C.su a oe pn).X.env = [(false, eval (.Name x p3) (C.su a oe pn).X.env)] := by rfl)
    (hpl : (backTo pos (starEach ([.Name x p3] : List Expr) (C.su a oe pn).X.env)).any (·.1) = false := by rfl) : SE (C.su a oe pn) .froz (.Call (.Name "isinstance" p1) [.Name err p2, .Name x p3] [] pos) (eIsE i a b) :=
  isE_run (cv := .ref Cx) EC hz hf hN hv hg hm (pe_glob (X := (C.su a oe pn).X) hgx gx (show RelV (.ref Cx) _ from rfl) hdx) (fun u r => by cases r; rfl) kt hd hcd he he2 hpl
theorem se_isT {T : String} (EC : ExcC C.X.K Ca) (hz : Zc (.ref Ca) none oe) (hf : ∃ vs, oe.data = .fields vs) (hN : C.X.N[i]? = some err) (hv : Vis C.X.env.scope err) (hg : Gl C.X "isinstance") (hm : C.X.mg "isinstance" = none) (hgx : Gl C.X x) (gx : C.X.mg x = none) (bx : bootBuiltins x = some (.type T))
    (kt : PySem.W.kitOne C.X.K (.ref Ca) (.type T) = some b) (hd : (err == ("__debug__" : Str)) = false := by decide) (hcd : (err == ("__classdict__" : Str)) = false := by decide) (hn : x ≠ "__name__" := by decide) (hdx : (x == ("__debug__" : Str)) = false := by decide)
    (he : starEach ([.Name err p2, .Name x p3] : List Expr) (C.su a oe pn).X.env = (false, eval (.Name err p2) (C.su a oe pn).X.env) :: starEach [.Name x p3] (C.su a oe pn).X.env := by rfl) (he2 : starEach ([.Name x p3] : List Expr) (C.su a oe pn).X.env = [(false, eval (.Name x p3) (C.su a oe pn).X.env)] := by rfl)
    (hpl : (backTo pos (starEach ([.Name x p3] : List Expr) (C.su a oe pn).X.env)).any (·.1) = false := by rfl) : SE (C.su a oe pn) .froz (.Call (.Name "isinstance" p1) [.Name err p2, .Name x p3] [] pos) (eIsE i a b) :=
  isE_run (cv := .ty T) EC hz hf hN hv hg hm (pe_bltn (X := (C.su a oe pn).X) hgx gx bx rfl hn hdx) (fun u r => by cases r; rfl) kt hd hcd he he2 hpl
end
/-! ### ask(e, ..), ask a parameter that holds a def -/
def eCallV (i : Nat) (tb : Str → Option Fx) (ml : Lx) : Ex := fun env => match env i with
  | some (false, .glo y) => (match tb y with
    | some F => bnd (ml env) F
    | none => halt)
  | _ => halt
section
variable {C : Cn} {k n i : Nat} {x : Str} {tb : Str → Option Fx} {e : Expr} {es : List Expr} {ml : Lx} {p pos : Pos}
/-- the defs that a slot may hold: their promises -/
def TabP (C : Cn) (k n : Nat) (tb : Str → Option Fx) : Prop := ∀ y F, tb y = some F → ∃ (j : Nat) (ps : List Str), j ≤ k ∧ n = ps.length ∧ Prm C.X.prog C.X.w C.X.K C.X.mg C.X.base C.W0.T j y ps .froz F
theorem se_callV (G : Gd C k) (ht : TabP C k n tb) (hN : C.X.N[i]? = some x) (hv : Vis C.X.env.scope x) (ha : SA C (e :: es) ml) (hln : Ln ml n) (hdb : (x == ("__debug__" : Str)) = false := by decide) (hcd : (x == ("__classdict__" : Str)) = false := by decide)
    (he : starEach (e :: es) C.X.env = (false, eval e C.X.env) :: starEach es C.X.env := by rfl) (hpl : (backTo pos (starEach es C.X.env)).any (·.1) = false := by rfl) : SE C .froz (.Call (.Name x p) (e :: es) [] pos) (eCallV i tb ml) :=
  SE.mk fun pins s σ env W st Q I R o => by
    unfold eCallV at o
    cases q : env i with
    | none => rw [q] at o; exact False.elim o
    | some z =>
      obtain ⟨t, d⟩ := z
      rw [q] at o
      cases t with
      | true => exact False.elim o
      | false =>
        cases d with
        | glo y =>
          cases hF : tb y with
          | none =>
            have o : Out C σ W ((match tb y with | some F => bnd (ml env) F | none => halt) st) _ := o
            rw [hF] at o; exact False.elim o
          | some F =>
            have o : Out C σ W ((match tb y with | some F => bnd (ml env) F | none => halt) st) _ := o
            rw [hF] at o
            obtain ⟨j, ps, hj, hn, f, fd, hm, hb, hk, FG⟩ := ht y F hF
            obtain ⟨v, h1, h2⟩ := R.slot i false _ q
            rw [if_neg Bool.false_ne_true] at h2
            have h2 : Rp _ _ _ _ (.glo y) v := h2
            simp only [Rp] at h2
            obtain ⟨a, ev, ha'⟩ := h2
            have ea : a = f := by rw [hm] at ha'; cases ha'; rfl
            subst ea ev
            refine wpAny_Call_Name_kw (thn ((pe_var (pos := p) hN hv hdb hcd).run pins s σ W.H (fun v H1 => v = .ref a ∧ H1 = W.H) I ⟨.ref a, h1, rfl, rfl⟩) fun u s1 ⟨v, H1, I1, r1, q1⟩ => ?_)
            obtain ⟨rfl, rfl⟩ := q1
            cases r1
            refine PySem.W.callWith_K (h₀ := C.X.base) I.ok.mod.kin hk (ha.go I1 R ((out_ln hln o).imp fun ds st1 ⟨hz, o1⟩ vs us s2 W1 e1 k1 r2 I2 rv => ⟨I2.kIn, ?_⟩)) he hpl
            exact run_call G FG hj hb (hz.trans hn) I2 k1 (e1.t.trans R.ext.t) r2 rv ((o1.up e1).imp fun d st2 q z W2 e2 k2 r2 => q z W2 (e1.trans e2) k2 (r2.down e1))
        | _ => exact False.elim o
end
end Sm


set_option Elab.async false
set_option linter.all false
set_option maxRecDepth 100000
set_option maxHeartbeats 2000000
/-! Sm30: x(lambda: e): the def x calls what it got. -/
namespace Sm
open PySem PySem.Spec L2
/-- the call of what slot 0 holds: the lambda at f, that does act -/
def eAct (f : Addr) (act : M D) : Ex := fun env => match env 0 with
  | some (false, .raw c) => if c = f then act else halt
  | _ => halt
theorem act_go {C : Cn} {σ : L2.St} {W : Wd} {st : Store} {env : En} {f : Addr} {act : M D} {Q : D → Store → Prop} (R : SR C env W st σ) (o : Out C σ W (eAct f act env st) Q) : σ[0]? = some (some (.ref f)) ∧ Out C σ W (act st) Q := by
  unfold eAct at o
  cases q : env 0 with
  | none => rw [q] at o; exact False.elim o
  | some p =>
    obtain ⟨t, d⟩ := p
    rw [q] at o
    cases t with
    | true => exact False.elim o
    | false =>
      cases d with
      | raw c =>
        have o2 : Out C σ W ((if c = f then act else (halt : M D)) st) Q := o
        by_cases z : c = f
        · rw [if_pos z] at o2
          clear o
          subst z
          obtain ⟨v, h1, h2⟩ := R.slot 0 false _ q
          rw [if_neg Bool.false_ne_true] at h2
          have h2 : Rp _ _ _ _ (.raw c) v := h2
          simp only [Rp] at h2
          exact ⟨h2 ▸ h1, o2⟩
        · rw [if_neg z] at o2; exact False.elim o2
      | _ => exact False.elim o
/-- in a try of C's body the name a, called, does act -/
def ActS (C : Cn) (a : Str) (f : Addr) (act : M D) : Prop := ∀ (p1 p2 : Pos) (W : WX) (pn : List (Addr × Obj)) (xe : Value → Shared → Prop), Takes (C.X.tr pn xe) W → SE (C.tr W pn xe) .froz (.Call (.Name a p1) [] [] p2) (eAct f act)
/-- the def x, handed a lambda that does act, does F act -/
def PrmL (P : Program) (w : World) (K : PySem.W.Frag) (mg : Str → Option Value) (base : Heap) (T : List (Addr × Str)) (k : Nat) (x : Str) (F : M D → M D) : Prop :=
  ∃ (g : Addr) (a : Str) (N : List Str) (qual : Str) (sc : Scope) (cd : Value), mg x = some (.ref g) ∧ PySem.W.keepIn K (.ref g) = true ∧ N[0]? = some a ∧ Vis sc a ∧ (a == ("__debug__" : Str)) = false ∧ (a == ("__classdict__" : Str)) = false ∧
    ∀ (A : Around) (outer : List Env) (s : Shared) (W : Wd) (st : Store) (f : Addr) (act : M D) (Q : VK) (E : XK), Room k A → A.guards = some [] → Env0 P w K mg base A outer s W.H → W.Ok K mg st → W.T = T →
      ActS (bodyC P w K mg base N qual sc g cd A outer s W E) a f act → (OutF K mg W E (F act st) fun d st' => ∀ z W', Ext W W' → W'.Ok K mg st' → RK K mg .froz W W' d z → Q z W'.H) →
      codeAny (model P w) A (.call (.ref g) ⟨[.ref f], []⟩) (CR (L2.CX P w) outer P w W.H s Q E) s
def eLam (F : M D → M D) (m : Ex) : Ex := fun env => F (m env)
/-- the lambda's context -/
abbrev lamC (C : Cn) (A : Around) (outer : List Env) (s : Shared) (W : Wd) (E : XK) (scope : Scope) (f c : Addr) : Cn := { X := LamX.lamCx C.X A outer s W.H E scope f c, W0 := C.W0, Wx := fun cls d _ H => E cls d H }
theorem ext_tab {W : Wd} {H1 : Hp} (eN : LamX.ExtN W.H H1) : Ext W { W with H := H1 } := by
  have key : ∀ a o, W.H a = some o → nT o = true → H1 a = some o := fun a o h q => eN a o h fun ps z => by rw [z] at q; cases q
  refine ⟨fun _ _ h => h, fun _ h q => absurd h q, ⟨[], by show W.as = W.as ++ []; simp⟩, fun _ h => .inl h, fun a o h _ q => key a o h q, rfl, fun a h u hu => ?_⟩
  cases q : nT u with
  | false => rfl
  | true => rw [← q]; exact h u (key a u hu q)
theorem ok_tab {K : PySem.W.Frag} {mg : Str → Option Value} {W : Wd} {H1 : Hp} {st : Store} (k : W.Ok K mg st) (eN : LamX.ExtN W.H H1) (T1 : LamX.Tabs W.T H1) : ({ W with H := H1 } : Wd).Ok K mg st := by
  have key : ∀ a o, W.H a = some o → nT o = true → H1 a = some o := fun a o h q => eN a o h fun ps z => by rw [z] at q; cases q
  refine ⟨fun a o h => key a o (k.sub a o h) (k.tabG a o h), k.nod, k.dis, k.len, fun i ds h => ?_, T1, k.tabG⟩
  obtain ⟨a, vs, h1, h2, h3⟩ := k.cel i ds h
  exact ⟨a, vs, h1, key a _ h2 rfl, h3⟩
theorem Wd.Ok.notcell {K : PySem.W.Frag} {mg : Str → Option Value} {W : Wd} {st : Store} {c : Addr} {φ : HO} (k : W.Ok K mg st) (h : W.H c = some φ) (hl : ∀ vs, φ ≠ .lst vs) : c ∉ W.as := fun hm => by
  obtain ⟨i, hi, e⟩ := List.mem_iff_getElem.mp hm
  have h2 : i < st.length := by rw [← k.len]; exact hi
  obtain ⟨b, vs, h3, h4, _⟩ := k.cel i st[i] (List.getElem?_eq_getElem h2)
  have : b = c := by
    rw [List.getElem?_eq_getElem hi, e] at h3
    exact (Option.some.inj h3).symm
  rw [this, h] at h4
  exact hl vs (Option.some.inj h4)
section
variable {C : Cn} {k kb kg : Nat} {x : Str} {F : M D → M D} {c P : Addr} {params : Arguments} {body : Expr} {scope : Scope} {mb : Ex} {p lpos pos : Pos}
theorem se_lam (G : Gd C k) (hkb : kb + 2 ≤ k) (hkg : kg ≤ k) (LP : PrmL C.X.prog C.X.w C.X.K C.X.mg C.X.base C.W0.T kg x F) (hg : Gl C.X x) (TB : LamX.TabB C.X.base C.X.mg c P) (hcode : C.X.env.code = .ref c)
    (hmT : (P, C.X.env.qual ++ "<lambda>") ∈ C.W0.T) (hu : ∀ q ∈ C.W0.T, q.1 = P → q.2 = C.X.env.qual ++ "<lambda>") (L : LamX.LamS C.X.env.scope scope) (hdef : defaultsOf params C.X.env = ([], []))
    (hbind : ∀ (q : Str) (cl : List (Str × Addr)) (pm cv ctv : Value), bindArgs (PySem.W.kla_fn "<lambda>" q params body scope cl pm cv ctv) ⟨[], []⟩ = pure [])
    (hbody : ∀ (A : Around) (outer : List Env) (s : Shared) (W : Wd) (E : XK) (f c' : Addr), Gd (lamC C A outer s W E scope f c') kb → SE (lamC C A outer s W E scope f c') .froz body mb)
    (hdb : (x == ("__debug__" : Str)) = false := by decide) : SE C .froz (.Call (.Name x p) [.Lambda params body scope lpos] [] pos) (eLam F mb) :=
  SE.mk fun pins s σ env W st Q I R o => by
    have hWT : W.T = C.W0.T := R.ext.t
    obtain ⟨g, a, N, qual, sc, cd, hm, hk, hN, hv, hd, hcd, run⟩ := LP
    refine wpAny_Call_Name_kw (ld_glob I hg hm ?_ hdb)
    refine PySem.W.callWith_K (h₀ := C.X.base) I.ok.mod.kin hk ?_ (by rfl) (by rfl)
    show wpAny _ _ (spliced ((false, eval (.Lambda params body scope lpos) C.X.env) :: backTo pos (starEach [] C.X.env))) _ _ s
    refine Calls.spliced_cons (LamX.lam_make2 I TB hcode hmT hu (hWT ▸ R.ok.tab) hdef (L.has I.ok) fun f c' pm ctv H1 s1 I1 eN T1 hf hfn hfr hco => ?_)
    refine Calls.spliced_nil ⟨I1.kIn, ?_⟩
    have e1 : Ext W { W with H := H1 } := ext_tab eN
    have k1 : C.ok { W with H := H1 } st := ok_tab R.ok eN (by rw [hWT]; exact T1)
    have R1 : SR C env { W with H := H1 } st σ := R.up e1 k1
    have o1 : Out C σ { W with H := H1 } (F (mb env) st) (KEnd C .froz { W with H := H1 } Q) := (Out.up e1 (show Out C σ W (F (mb env) st) _ from o)).imp fun d st2 q z W2 e2 k2 r2 => q z W2 (e1.trans e2) k2 r2
    refine wpAny_call (codeAny_mono (run C.X.A C.X.stack s1 { W with H := H1 } st f (mb env) Q (fun c d H => C.Wx c d σ H) (G.room.mono hkg) G.gu I1.env0 k1 hWT ?_ (outF_of o1)) fun r s2 hq => ?_)
    · -- what the def calls
      intro p1 p2 Wt pn xe tk
      refine SE.mk fun pinsZ sZ σZ envZ WZ stZ QZ IZ RZ oZ => ?_
      obtain ⟨hsl, oA⟩ := act_go RZ oZ
      refine wpAny_Call_Name_kw (thn ((pe_var (pos := p1) hN hv hd hcd).run pinsZ sZ σZ WZ.H (fun v H2 => v = .ref f ∧ H2 = WZ.H) IZ ⟨.ref f, hsl, rfl, rfl⟩) fun u s3 ⟨v, H2, I3, r3, q3⟩ => ?_)
      obtain ⟨ev, eH⟩ := q3
      subst ev eH
      obtain rfl : u = Value.ref f := r3
      have hlam := I3.base.keep f _ hf hfn hfr (fun z => nomatch (show f ∈ ([] : List Addr) from z))
      refine PySem.W.callWith_F0 ⟨_, _, _, _, hlam⟩ ?_
      have eZ : Ext { W with H := H1 } WZ := RZ.ext
      have nc : c' ∉ W.as := k1.notcell hco (fun vs z => by unfold LamX.CodeO at z; cases z)
      have hcZ : WZ.H c' = some (LamX.CodeO c' (C.X.env.qual ++ "<lambda>")) := eZ.h c' _ hco nc
      obtain ⟨⟨oc, vs, t, hoc, hdc, hvc⟩, _, _⟩ := I3.hok c' _ hcZ
      have un : Un (frs C.X.stack) [] H1 WZ.H s1.heap s3.heap := I3.base
      have rm : Room (kb + 1) (C.X.A.deeper (PyProof.Rows.envOfC qual sc s1.heap.objs.size g cd)) := (G.room.mono hkb).deeper _
      have kZ : C.ok WZ stZ := RZ.ok
      have RL : SR C env WZ stZ σ := R1.up eZ kZ
      have body_ : codeAny (model C.X.prog C.X.w) (C.X.A.deeper (PyProof.Rows.envOfC qual sc s1.heap.objs.size g cd)) (.call (.ref f) ⟨[], []⟩)
          (CR (L2.CX C.X.prog C.X.w) (PyProof.Rows.envOfC qual sc s1.heap.objs.size g cd :: C.X.stack) C.X.prog C.X.w WZ.H s3 QZ (fun cls d H => Wt cls d σZ H)) s3 := by
        refine PySem.W.kla_callFunE rm.depth hlam rfl L.co L.gen rfl ⟨c', oc, vs, t, rfl, hoc, hdc, hvc⟩ ?_
        rw [hbind]
        refine wpAny_pure (wpAny_newFunctionEnv (fun y hy => (L.own y hy).2) (fun y hy => absurd hy (by simp)) (fun h₁ hns hsb => ⟨I3.nolimit.fresh _ hsb, ?_⟩) L.kind)
        show codeAny _ _ (.expr body (LamX.lamEnv C.X scope s3.heap.objs.size f c')) _ _
        have keep : ∀ b o, s3.heap.get? b = some o → h₁.get? b = some o := fun b o e => hsb.extBut b o (Nat.ne_of_lt (Heap.lt_size e)) (Heap.get?_push_of_some _ e)
        have J := LamX.lam_start2 (X := C.X) (pins := pins) (σ := σ) (H := H1) (HZ := WZ.H) (s := s1) (s1 := s3) (A := C.X.A.deeper (PyProof.Rows.envOfC qual sc s1.heap.objs.size g cd)) (outer := PyProof.Rows.envOfC qual sc s1.heap.objs.size g cd :: C.X.stack)
          (E := fun cls d H => Wt cls d σZ H) (scope := scope) (f := f) (c' := c') (h₁ := h₁) (tk := s3.toks + ([] : List (Str × Value)).length) I1 L I3.env0 rm.hd un hns keep
        have GL : Gd (lamC C (C.X.A.deeper (PyProof.Rows.envOfC qual sc s1.heap.objs.size g cd)) (PyProof.Rows.envOfC qual sc s1.heap.objs.size g cd :: C.X.stack) s3 WZ (fun cls d H => Wt cls d σZ H) scope f c') kb := ⟨rfl, G.sys, rm.deeper _, G.gu, takes_of rfl rfl rfl rfl, G.nd⟩
        refine PySem.W.kla_codeExpr (wpAny_mono ((hbody _ _ s3 WZ _ f c' GL).run [] _ σ WZ.H QZ J ⟨env, WZ, stZ, rfl, ⟨RL.ext, RL.len, RL.ok, RL.slot, RL.dis⟩, ?_⟩) (fun v s4 hq => ?_) fun e s4 hq => hq)
        · cases q : mb env stZ with
          | ok d st2 => rw [q] at oA; exact oA
          | exc c fs st2 => rw [q] at oA; exact oA
          | stuck => rw [q] at oA; exact oA
        · obtain ⟨w', H', J', rv, q⟩ := hq
          exact ⟨w', H', J'.os, J'.bare, J'.base, J'.hok, rv, q⟩
      refine wpAny_call (codeAny_mono body_ fun r s4 hq => ?_)
      cases r with
      | error e => exact passAt tk σZ pinsZ WZ.H s3 e s4 I3 hq
      | ok fl =>
        cases fl with
        | ret u => exact I3.after hq
        | next => exact False.elim hq
        | brk => exact False.elim hq
        | cont => exact False.elim hq
    · cases r with
      | error e => exact passAt G.tk σ pins H1 s1 e s2 I1 hq
      | ok fl =>
        cases fl with
        | ret u => exact I1.after hq
        | next => exact False.elim hq
        | brk => exact False.elim hq
        | cont => exact False.elim hq
end
end Sm


set_option Elab.async false
set_option linter.all false
set_option maxRecDepth 100000
set_option maxHeartbeats 1000000
/-! Sm31: the promises of defs that make lambdas, of the def that gets them; the classes' facts. -/
namespace Sm
open PySem PySem.Spec L2
/-! ### classes -/
/-- an exception class with the text of its __init__ -/
structure ClsD where
  name : Str
  qual : Str
  params : Arguments
  body : List Stmt
  scope : Scope
abbrev FnS : Type := Option (Str × Str × Arguments × FuncBody × Scope × Addr × List Str × Addr × Bool)
def ClsD.val (d : ClsD) : FnS := some ("__init__", d.qual, d.params, .stmts d.body, d.scope, mainGlobals, ["__class__"], builtinsNs, true)
def iniOf (K : PySem.W.Frag) (x : Str) : Addr := He.ma K (He.ga K x) "__init__"
def iniFn (K : PySem.W.Frag) (x : Str) : Option FuncData := match K.lookup (iniOf K x) with
  | some ⟨_, _, .func fd, _⟩ => some fd
  | _ => none
def supW (K : PySem.W.Frag) (x : Str) : FnS := match iniFn K x with
  | some fd => some (fd.name, fd.qualname, fd.params, fd.body, fd.scope, fd.globals, fd.closure.map (·.1), fd.builtins, decide (fd.defaults = .none))
  | none => none
def codeRef : Value → Addr
  | .ref c => c
  | _ => 0
def cdaOf (K : PySem.W.Frag) (x : Str) : Addr := match iniFn K x with
  | some fd => codeRef fd.code
  | none => 0
def ccOf (K : PySem.W.Frag) (x : Str) : Addr := match iniFn K x with
  | some fd => (match fd.closure with
    | (_, c) :: _ => c
    | [] => 0)
  | none => 0
def fileB (file : Str) (K : PySem.W.Frag) (c : Addr) : Bool := match K.lookup c with
  | some ⟨_, _, .fields vs, _⟩ => (match (vs[2]? : Option Value) with
    | some (.str f _) => file == f
    | _ => false)
  | _ => false
def cellB (K : PySem.W.Frag) (c C : Addr) : Bool := match K.lookup c with
  | some ⟨_, _, .cell (some (.ref D)), _⟩ => decide (D = C)
  | _ => false
def iniB (K : PySem.W.Frag) (x : Str) (q : Str) : Bool := match iniFn K x with
  | some fd => decide (fd.code = .ref (codeRef fd.code)) && PySem.W.codeIn K fd.code q
  | none => false
/-- what isinstance asks -/
def excB (K : PySem.W.Frag) (C : Addr) : Bool :=
  decide (PySem.W.findIn K (.ref C) "__getattribute__" = some (some (.builtin "BaseException.__getattribute__"))) && (decide (PySem.W.findIn K (.ref C) "__getattr__" = some none) && (decide (PySem.W.subIn K (.ref C) (.type "BaseException") = some true) && (PySem.W.hasDictIn K C &&
    (decide (PySem.W.findIn K (.ref C) "__class__" = some (some (.builtin "object.__class__"))) && (decide (PySem.W.specialIn K (.builtin "object.__class__") "__get__" = some (some (.builtin "getset_descriptor.__get__"))) && (decide (PySem.W.takesIn K (.builtin "object.__class__") = some true) && decide (PySem.W.mroIn K C (.type "object") = some true)))))))
theorem excB_ok {K : PySem.W.Frag} {C : Addr} (h : excB K C = true) : ExcC K C := by
  unfold excB at h
  simp only [Bool.and_eq_true, decide_eq_true_eq] at h
  obtain ⟨h1, h2, h3, h4, h5, h6, h7, h8⟩ := h
  exact ⟨h1, h2, h3, h4, h5, h6, h7, h8⟩
def supB (file : Str) (K : PySem.W.Frag) (d : ClsD) : Bool :=
  PySem.W.excInitIn K (He.ga K d.name) He.veBase "ValueError.__new__" && (decide (PySem.W.findIn K (.ref (He.ga K d.name)) "__init__" = some (some (.ref (iniOf K d.name)))) && (decide (PySem.W.typeIn K (.ref (iniOf K d.name)) = some (.type "function")) &&
  (iniB K d.name d.qual && (fileB file K (cdaOf K d.name) && (cellB K (ccOf K d.name) (He.ga K d.name) && ((PySem.W.clsIn K (He.ga K d.name)).isSome && (decide (PySem.W.mroIn K (He.ga K d.name) (.ref (He.ga K d.name)) = some true) &&
  (decide (PySem.W.ks_superIn K (He.ga K d.name) (He.ga K d.name) "__init__" = some (some (.builtin "ValueError.__init__"))) && (decide (PySem.W.subIn K (.ref (He.ga K d.name)) (.type "ValueError") = some true) && (decide (PySem.W.nsIn K mainGlobals "super" = some none) &&
  (decide (PySem.W.nsIn K cStatics "thirdparty.any" = some none) && (PySem.W.keepIn K (.ref (He.ga K d.name)) && (decide (PySem.W.typeIn K (.ref (He.ga K d.name)) = some (.type "type")) && excB K (He.ga K d.name))))))))))))))
theorem supB_ok {P : Program} {K : PySem.W.Frag} {d : ClsD} (e : supW K d.name = d.val) (h : supB P.main.file K d = true) (top : (P.main.scope.names.lookup ("super" : Str)).isSome = false) :
    SupC P K (He.ga K d.name) (iniOf K d.name) (cdaOf K d.name) (ccOf K d.name) d.qual d.params d.body d.scope ∧ ExcC K (He.ga K d.name) := by
  unfold supB at h
  simp only [Bool.and_eq_true, decide_eq_true_eq] at h
  obtain ⟨h1, h2, h3, h4, h5, h6, h7, h8, h9, h10, h11, h12, h13, h14, h15⟩ := h
  have E := excB_ok h15
  obtain ⟨cd, hcd⟩ := Option.isSome_iff_exists.mp h7
  unfold supW at e
  unfold iniB at h4
  cases q : iniFn K d.name with
  | none => rw [q] at h4; cases h4
  | some fd =>
    rw [q] at e h4
    have h4 : (decide (fd.code = .ref (codeRef fd.code)) && PySem.W.codeIn K fd.code d.qual) = true := h4
    obtain ⟨a1, a2⟩ := Bool.and_eq_true_iff.mp h4
    have a1 := of_decide_eq_true a1
    have ec : cdaOf K d.name = codeRef fd.code := by unfold cdaOf; rw [q]
    have q0 := q
    unfold iniFn at q
    cases lk : K.lookup (iniOf K d.name) with
    | none => rw [lk] at q; cases q
    | some o =>
      obtain ⟨oc, od, dt, osl⟩ := o
      rw [lk] at q
      cases dt with
      | func fd' =>
        cases q
        have hcode : fd.code = .ref (cdaOf K d.name) := by rw [ec]; exact a1
        obtain ⟨n1, n2, n3, n4, n5, n6, n7, n8, n9, n10, n11, n12, n13, n14, n15⟩ := fd
        have e2 : (some (n1, n2, n3, n4, n5, n6, n7.map (·.1), n15, decide (n8 = .none)) : FnS) = d.val := e
        unfold ClsD.val at e2
        simp only [Option.some.injEq, Prod.mk.injEq] at e2
        obtain ⟨b1, b2, b3, b4, b5, b6, b7, b8, b9⟩ := e2
        have b9 : n8 = .none := by simpa using b9
        subst b1 b2 b3 b4 b5 b6 b8 b9
        have hcl : n7 = [(("__class__" : Str), ccOf K d.name)] := by
          cases n7 with
          | nil => cases b7
          | cons p r =>
            cases r with
            | nil =>
              obtain ⟨y, c⟩ := p
              have : y = ("__class__" : Str) := by simpa using b7
              rw [this]
              have : ccOf K d.name = c := by unfold ccOf; rw [q0]
              rw [this]
            | cons p' r => simp at b7
        subst hcl
        have hcode : n13 = .ref (cdaOf K d.name) := hcode
        subst hcode
        refine ⟨⟨h1, h2, h3, ⟨oc, od, osl, n9, n10, n11, n12, n14, lk⟩, a2, ?_, ?_, ⟨cd, hcd⟩, h8, h9, h10, h11, h12, h13, E.hs, h14, top⟩, E⟩
        · unfold fileB at h5
          split at h5
          · rename_i ccl cdd vs ccs hk
            split at h5
            · rename_i f tf hv
              exact ⟨ccl, cdd, vs, ccs, f, tf, hk, hv, h5⟩
            · cases h5
          · cases h5
        · unfold cellB at h6
          split at h6
          · rename_i cl cld D csl hk
            rw [of_decide_eq_true h6] at hk
            exact ⟨cl, cld, csl, hk⟩
          · cases h6
      | _ => cases q
/-! ### what the head tells of classes and tables -/
def kitB (K : PySem.W.Frag) (xs : List Str) : Bool := xs.all fun x => decide (PySem.W.kitOne K (.ref (He.ga K x)) (.type "ValueError") = some true) && xs.all fun y => decide (PySem.W.kitOne K (.ref (He.ga K x)) (.ref (He.ga K y)) = some (decide (x = y)))
def exmB (K : PySem.W.Frag) (xs : List Str) (ce : Str) : Bool := xs.all fun x => decide (PySem.W.exmOne K (.ref (He.ga K x)) (.ref (He.ga K ce)) = some true)
def gloB (K : PySem.W.Frag) (x : Str) : Bool := He.eqO (PySem.W.nsIn K mainGlobals x) (some (some (.ref (He.ga K x))))
def moreB (file : Str) (cls : List ClsD) (ce : Str) (tf : List He.Defn) (K : PySem.W.Frag) : Bool :=
  (K.lookup sysModules).isSome && (cls.all (supB file K) && (cls.all (fun d => gloB K d.name) && (gloB K ce && (kitB K (cls.map (·.name)) && (exmB K (cls.map (·.name)) ce && decide ((tf.map fun p => (He.cT K p).2).Nodup))))))
abbrev AlM : Type := He.AlD × List FnS × Bool
def frM (g : Addr → Option Obj) (n : Nat) : PySem.W.Frag := He.frT g (sysModules :: cStatics :: He.asD g n)
def obsM (n : Nat) (file : Str) (fa : List He.Fa) (fn : List He.DefD) (cls : List ClsD) (ce : Str) (tf : List He.Defn) (g : Addr → Option Obj) : AlM :=
  (He.obsD fa fn (frM g n), cls.map (fun d => supW (frM g n) d.name), moreB file cls ce tf (frM g n) && He.tabsB g tf (frM g n))
def valM (fn : List He.DefD) (cls : List ClsD) : AlM := (He.valD fn, cls.map ClsD.val, true)
structure SaysM (file : Str) (fa : List He.Fa) (fn : List He.DefD) (cls : List ClsD) (ce : Str) (tf : List He.Defn) (h : Heap) (K : PySem.W.Frag) : Prop where
  d : He.SaysD fa fn K
  c : cls.map (fun d => supW K d.name) = cls.map ClsD.val
  m : moreB file cls ce tf K = true
  hd : ∀ p ∈ tf, PySem.W.codeHdIn K (He.cT K p).1 (He.cT K p).2 = true
  out : ∀ p ∈ tf, K.lookup (He.cT K p).2 = none
  empty : ∀ p ∈ tf, h.get? (He.cT K p).2 = some { cls := .none, data := .fields #[] }
theorem saysM_of {n : Nat} {file : Str} {fa : List He.Fa} {fn : List He.DefD} {cls : List ClsD} {ce : Str} {tf : List He.Defn} {h : Heap} (e : obsM n file fa fn cls ce tf h.get? = valM fn cls) : SaysM file fa fn cls ce tf h (frM h.get? n) := by
  have e1 : He.obsD fa fn (frM h.get? n) = He.valD fn := congrArg (fun z : AlM => z.1) e
  have e2 : cls.map (fun d => supW (frM h.get? n) d.name) = cls.map ClsD.val := congrArg (fun z : AlM => z.2.1) e
  have e3 : (moreB file cls ce tf (frM h.get? n) && He.tabsB h.get? tf (frM h.get? n)) = true := congrArg (fun z : AlM => z.2.2) e
  obtain ⟨e4, e5⟩ := Bool.and_eq_true_iff.mp e3
  have key : ∀ p ∈ tf, PySem.W.codeHdIn (frM h.get? n) (He.cT (frM h.get? n) p).1 (He.cT (frM h.get? n) p).2 = true ∧ ∃ o, h.get? (He.cT (frM h.get? n) p).2 = some o ∧ He.emptyTab o = true := fun p hp => by
    have z := List.all_eq_true.mp e5 p hp
    obtain ⟨z1, z2⟩ := Bool.and_eq_true_iff.mp z
    refine ⟨z1, ?_⟩
    split at z2
    · rename_i o q; exact ⟨o, q, z2⟩
    · cases z2
  exact ⟨e1, e2, e4, fun p hp => (key p hp).1, fun p hp => let ⟨_, o, q, z⟩ := key p hp; He.frT_none q z, fun p hp => let ⟨_, o, q, z⟩ := key p hp; by rw [q, He.emptyTab_eq z]⟩
def hookM (n : Nat) (file : Str) (fa : List He.Fa) (fn : List He.DefD) (cls : List ClsD) (ce : Str) (tf : List He.Defn) : PySem.W.Hook where
  α := AlM
  obs := fun s => obsM n file fa fn cls ce tf s.heap.get?
  val := fun _ => valM fn cls
  says := fun _ h => ∃ K : PySem.W.Frag, K.In h ∧ SaysM file fa fn cls ce tf h K
  of := fun _ _ e => ⟨_, He.frT_in, saysM_of e⟩
  keeps := fun _ _ _ ⟨K, hK, c⟩ k => ⟨K, PySem.W.Frag.In.keeps hK k, ⟨c.d, c.c, c.m, c.hd, c.out, fun p hp => k _ _ (c.empty p hp)⟩⟩
theorem obsM_eq {n : Nat} {file : Str} {fa : List He.Fa} {fn : List He.DefD} {cls : List ClsD} {ce : Str} {tf : List He.Defn} {g : Addr → Option Obj} {s : Shared} (h : ∀ a, g a = s.heap.get? a) : obsM n file fa fn cls ce tf g = (hookM n file fa fn cls ce tf).obs s := by
  have e : g = s.heap.get? := funext h
  rw [e]; rfl
/-- the tables of the defs that make lambdas -/
def tabT (K : PySem.W.Frag) (tf : List He.Defn) : List (Addr × Str) := tf.map fun p => ((He.cT K p).2, (p.1 ++ ".<locals>.") ++ "<lambda>")
/-- all that the walk of a law with exceptions leans on -/
structure SaysE (P : Program) (fa : List He.Fa) (fn : List He.DefD) (cls : List ClsD) (ce : Str) (tf : List He.Defn) (K : PySem.W.Frag) (mg : Str → Option Value) (base : Heap) (T : List (Addr × Str)) : Prop where
  s : Says fa fn K mg
  sup : ∀ d ∈ cls, SupC P K (He.ga K d.name) (iniOf K d.name) (cdaOf K d.name) (ccOf K d.name) d.qual d.params d.body d.scope ∧ ExcC K (He.ga K d.name)
  cl : ∀ d ∈ cls, mg d.name = some (.ref (He.ga K d.name))
  hce : mg ce = some (.ref (He.ga K ce))
  kit : ∀ d ∈ cls, PySem.W.kitOne K (.ref (He.ga K d.name)) (.type "ValueError") = some true ∧ ∀ d' ∈ cls, PySem.W.kitOne K (.ref (He.ga K d.name)) (.ref (He.ga K d'.name)) = some (decide (d.name = d'.name))
  exm : ∀ d ∈ cls, PySem.W.exmOne K (.ref (He.ga K d.name)) (.ref (He.ga K ce)) = some true
  tb : ∀ p ∈ tf, LamX.TabB base mg (He.cT K p).1 (He.cT K p).2
  nd : (tf.map fun p => (He.cT K p).2).Nodup
  eq : T = tabT K tf
section
variable {P : Program} {fa : List He.Fa} {fn : List He.DefD} {cls : List ClsD} {ce : Str} {tf : List He.Defn} {K : PySem.W.Frag} {mg : Str → Option Value} {base : Heap} {T : List (Addr × Str)}
theorem SaysE.no (S : SaysE P fa fn cls ce tf K mg base T) (i : Nat) {x : Str} (h : fa[i]? = some (.free x)) : mg x = none := S.s.no i h
theorem SaysE.in_ (S : SaysE P fa fn cls ce tf K mg base T) (i : Nat) {x : Str} {n : Int} (h : fa[i]? = some (.int x n)) : ∃ t, mg x = some (.int n t) := S.s.in_ i h
theorem SaysE.st (S : SaysE P fa fn cls ce tf K mg base T) (i : Nat) {x z : Str} (h : fa[i]? = some (.str x z)) : ∃ t, mg x = some (.str z t) := S.s.st i h
theorem SaysE.go (S : SaysE P fa fn cls ce tf K mg base T) (i : Nat) {x : Str} (h : fa[i]? = some (.glo x)) : mg x = some (.ref (He.ga K x)) := S.s.go i h
theorem SaysE.of {w : World} {h : Heap} (X : K.In h) (G : h.Ns mainGlobals mg) (c : SaysM P.main.file fa fn cls ce tf h K) (top : (P.main.scope.names.lookup ("super" : Str)).isSome = false) (tb : ∀ p ∈ tf, LamX.TabB base mg (He.cT K p).1 (He.cT K p).2) : SaysE P fa fn cls ce tf K mg base (tabT K tf) := by
  have m := c.m
  unfold moreB at m
  simp only [Bool.and_eq_true, decide_eq_true_eq] at m
  obtain ⟨m1, m2, m3, m4, m5, m6, m7⟩ := m
  have txt : ∀ d ∈ cls, supW K d.name = d.val := fun d hd => by
    obtain ⟨i, hi, e⟩ := List.mem_iff_getElem.mp hd
    have := congrArg (fun l => l[i]?) c.c
    simp only [List.getElem?_map, List.getElem?_eq_getElem hi, Option.map_some, e] at this
    exact Option.some.inj this
  refine ⟨⟨c.d, Option.isSome_iff_exists.mp m1, h, X, G⟩, fun d hd => supB_ok (txt d hd) (List.all_eq_true.mp m2 d hd) top, fun d hd => PySem.W.mg_of X G (He.eqO_ok (List.all_eq_true.mp m3 d hd)), PySem.W.mg_of X G (He.eqO_ok m4), fun d hd => ?_, fun d hd => ?_, tb, m7, rfl⟩
  · have z := List.all_eq_true.mp m5 d.name (List.mem_map.mpr ⟨d, hd, rfl⟩)
    simp only [Bool.and_eq_true, decide_eq_true_eq] at z
    refine ⟨z.1, fun d' hd' => ?_⟩
    have := List.all_eq_true.mp z.2 d'.name (List.mem_map.mpr ⟨d', hd', rfl⟩)
    simpa using this
  · have z := List.all_eq_true.mp m6 d.name (List.mem_map.mpr ⟨d, hd, rfl⟩)
    simpa using z
theorem SaysE.inT (S : SaysE P fa fn cls ce tf K mg base T) {p : He.Defn} (hp : p ∈ tf) {z : Str} (e : p.1 ++ ".<locals>." = z) : ((He.cT K p).2, z ++ "<lambda>") ∈ T := by
  rw [S.eq, ← e]; exact List.mem_map.mpr ⟨p, hp, rfl⟩
theorem SaysE.uni (S : SaysE P fa fn cls ce tf K mg base T) {p : He.Defn} (hp : p ∈ tf) {z : Str} (ez : p.1 ++ ".<locals>." = z) : ∀ q ∈ T, q.1 = (He.cT K p).2 → q.2 = z ++ "<lambda>" := fun q hq e => by
  rw [← ez]
  rw [S.eq] at hq
  obtain ⟨r, hr, e2⟩ := List.mem_map.mp hq
  have e3 : (He.cT K r).2 = (He.cT K p).2 := by rw [← e, ← e2]
  have : r = p := by
    obtain ⟨i, hi, ei⟩ := List.mem_iff_getElem.mp hr
    obtain ⟨j, hj, ej⟩ := List.mem_iff_getElem.mp hp
    have pw := List.pairwise_iff_getElem.mp S.nd
    rcases Nat.lt_trichotomy i j with z | z | z
    · have a := pw i j (by simpa using hi) (by simpa using hj) z
      rw [List.getElem_map, List.getElem_map, ei, ej] at a
      exact absurd e3 a
    · subst z; rw [← ei, ← ej]
    · have a := pw j i (by simpa using hj) (by simpa using hi) z
      rw [List.getElem_map, List.getElem_map, ei, ej] at a
      exact absurd e3.symm a
  rw [← e2, this]
end
end Sm


set_option Elab.async false
set_option linter.all false
set_option maxRecDepth 100000
set_option maxHeartbeats 1000000
/-! Sm32: a def's promise, its code object known; the def that gets a lambda; the law's end. -/
namespace Sm
open PySem PySem.Spec L2
section
variable {P : Program} {w : World} {K : PySem.W.Frag} {mg : Str → Option Value} {base : Heap} {T : List (Addr × Str)} {k : Nat} {f : Addr} {fd : FuncData} {ps N : List Str} {κ : Kd} {F : Fx} {m : Sx} {x qual : Str} {params : Arguments} {body : List Stmt} {scope : Scope} {dvs : List V} {kws : List (Str × V)}
theorem run_body {A : Around} {outer : List Env} {s : Shared} {args : Args} {us : List Value} {vs : List V} {W : Wd} {st : Store} {ds : List D} {Q : VK} {E : XK} (FD : FunD K x qual params body scope dvs kws f fd) (S : FnScope N ps scope) (hs : Sysm K) (hr : Room (k + 1) A) (hg : A.guards = some []) (e0 : Env0 P w K mg base A outer s W.H)
    (hb : BindsTo s fd args (ps.zip us)) (r : Vals vs us) (kW : W.Ok K mg st) (rp : RpL K mg W.as W.G ds vs) (hlen : ds.length = ps.length)
    (hbody : ∀ (cd : Value), (∃ oc od osl, K.lookup f = some ⟨oc, od, .func fd, osl⟩ ∧ fd.code = cd ∧ PySem.W.codeIn K cd qual = true) → Gd (bodyC P w K mg base N qual scope f cd A outer s W E) k → PassesOwn (model P w) (A.deeper (PyProof.Rows.envOfC qual scope s.heap.objs.size f cd)) (PyProof.Rows.envOfC qual scope s.heap.objs.size f cd) (bodyC P w K mg base N qual scope f cd A outer s W E).X.xe →
      SSs (bodyC P w K mg base N qual scope f cd A outer s W E) κ body m)
    (ho : OutF K mg W E (callS κ m ds st) fun d st' => ∀ z W', Ext W W' → W'.Ok K mg st' → RK K mg κ W W' d z → Q z W'.H) : codeAny (model P w) A (.call (.ref f) args) (CR (L2.CX P w) outer P w W.H s Q E) s := by
  obtain ⟨oc, od, dV, kV, doc, pm, an, cdv, ct, osl, rfl, lk, hcd, _, _⟩ := FD.ex
  have hl : vs.length = ps.length := by rw [← rp.len]; exact hlen
  have KX : K.In s.heap := e0.mod.kin.keeps fun b o e => (e0.bs b o e).1
  have lim : s.heap.NoLimit := e0.mod.nolimit.keeps fun b o e => (e0.bs b o e).1
  have hkind : ∀ y ∈ ps.zip us, scope.names.lookup y.1 = some .local ∨ (scope.names.lookup y.1 = some .cell ∧ ((cellsFrom (s.heap.objs.size + 1) scope.names []).lookup y.1).isSome = true) := fun ⟨n, v⟩ hy => by
    rcases S.par n (List.of_mem_zip hy).1 with q | q
    · exact .inl q
    · exact .inr ⟨q, PySem.W.cellsFrom_some _ _ _ (.inl q)⟩
  refine codeAny_call_function hr.depth (KX _ _ lk) rfl S.co S.gen rfl (PySem.W.codeRec_of KX hcd) (hb _ _ _ _ ?_)
  refine wpAny_newFunctionEnv_cells S.kind hkind fun env he s1 y => ?_
  subst he
  refine ⟨lim.keeps y.toInCall.keep, codeAny_func ?_⟩
  have I : Inv (bodyC P w K mg base N qual scope f cdv A outer s W E).X [] (L2.start N vs) W.H s1 := inv_start S hr.hd e0 hl r y
  have G : Gd (bodyC P w K mg base N qual scope f cdv A outer s W E) k := ⟨rfl, hs, hr.deeper _, hg, takes_of rfl rfl rfl rfl, S.nd⟩
  have hN : ds.length ≤ N.length := by
    have := congrArg List.length S.pre
    rw [List.length_take] at this
    omega
  have hsr : SR (bodyC P w K mg base N qual scope f cdv A outer s W E) (env0 ds) W st (L2.start N vs) := SR.start (C := bodyC P w K mg base N qual scope f cdv A outer s W E) rfl kW rp hN
  refine wpAny_mono ((hbody cdv ⟨oc, od, osl, lk, rfl, hcd⟩ G (passes_of rfl)).run [] s1 (L2.start N vs) W.H { nx := fun _ H' => Q .non H', rt := Q } I ⟨env0 ds, W, st, rfl, hsr, ?_⟩) (fun fl s' hs => ?_) fun e s' hs => hs
  · have ho : OutF K mg W E (callS κ m ds st) _ := ho
    unfold callS bnd at ho
    cases q : m (env0 ds) st with
    | ok fl st' =>
      rw [q] at ho
      cases fl with
      | nx env' =>
        cases κ with
        | froz => exact fun σ' W' R' l => (show (∀ z W', Ext W W' → W'.Ok K mg st' → RK K mg .froz W W' .non z → Q z W'.H) from ho) .non W' R'.ext R'.ok (by simp [RK, Rp])
        | bor => exact False.elim (show False from ho)
        | fresh => exact False.elim (show False from ho)
      | rt d => exact fun v W' e' k' r' => (show (∀ z W', Ext W W' → W'.Ok K mg st' → RK K mg κ W W' d z → Q z W'.H) from ho) v W' e' k' r'
    | exc c fs st' => rw [q] at ho; exact fun cl d W' σ' e' k' b => ho cl d W' e' k' b
    | stuck => rw [q] at ho; exact False.elim ho
  · have fin : ∀ {σ' : L2.St} {H' : Hp} {v : V} {u : Value}, Inv (bodyC P w K mg base N qual scope f cdv A outer s W E).X [] σ' H' s' → RelV v u → Q v H' → CE outer P w W.H s Q u s' :=
      fun {σ' H' v u} J rv q => ⟨v, H', J.os, J.bare, J.base, J.hok, rv, q⟩
    cases fl with
    | ret u =>
      obtain ⟨v, σ', H', J, rv, q⟩ := hs
      exact fin J rv q
    | next =>
      obtain ⟨σ', H', J, q⟩ := hs
      exact fin (v := V.non) (u := Value.none) J rfl q
    | brk =>
      obtain ⟨_, _, _, q⟩ := hs
      exact False.elim q
    | cont =>
      obtain ⟨_, _, _, q⟩ := hs
      exact False.elim q
/-- as prm_of, the def's code object known -/
theorem prm_ofC {fa : List He.Fa} {fn : List He.DefD} (S : Says fa fn K mg) (i j : Nat) {d : He.DefD} (hd : fn[i]? = some d) {x : Str} (hx : fa[j]? = some (.glo x)) (hat : d.at_ = (x, none)) (hdf : d.dfl = []) (hkw : d.kwd = []) (sc : FnScope N ps d.scope)
    (hb : ∀ (kV doc pm : Value) (an : Option Addr) (cdv ct : Value) (us : List Value), us.length = ps.length → bindArgs (PySem.W.fnOf d.name d.qual d.params d.body d.scope .none kV doc pm an cdv ct) ⟨us, []⟩ = pure (ps.zip us))
    (hbody : ∀ (f : Addr) (cd : Value) (A : Around) (outer : List Env) (s : Shared) (W : Wd) (E : XK), W.T = T → cd = .ref (He.cT K d.at_).1 → Gd (bodyC P w K mg base N d.qual d.scope f cd A outer s W E) k → PassesOwn (model P w) (A.deeper (PyProof.Rows.envOfC d.qual d.scope s.heap.objs.size f cd)) (PyProof.Rows.envOfC d.qual d.scope s.heap.objs.size f cd) (bodyC P w K mg base N d.qual d.scope f cd A outer s W E).X.xe →
      SSs (bodyC P w K mg base N d.qual d.scope f cd A outer s W E) κ d.body m) : Prm P w K mg base T (k + 1) x ps κ (callS κ m) := by
  obtain ⟨fd, FD⟩ := S.c.def_ i hd
  have hmg := S.go j hx
  have ef : He.fAd K d.at_ = He.ga K x := by rw [hat]; rfl
  have e1 : d.dvs K = [] := by unfold He.DefD.dvs; rw [hdf]; rfl
  have e2 : d.kws K = [] := by unfold He.DefD.kws; rw [hkw]; rfl
  rw [e1, e2] at FD
  have FD' := FD
  rw [ef] at FD
  refine ⟨_, fd, hmg, FD.bindsN hb, FD.kp, ⟨fun A outer s args us vs W st ds Q E hr hg e0 hbi r kW hT rp hlen ho => ?_⟩⟩
  refine run_body FD sc S.sys hr hg e0 hbi r kW rp hlen (fun cd ⟨oc, od, osl, lk, hc, hci⟩ G hp => hbody _ cd A outer s W E hT ?_ G hp) ho
  obtain ⟨c, ec⟩ := He.codeIn_ref hci
  rw [← ef] at lk
  have := He.codeOf_eq lk (hc.trans ec)
  rw [ec]
  show Value.ref c = .ref (He.codeOf K d.at_)
  rw [this]
/-- the def that gets a lambda -/
theorem prmL_of {fa : List He.Fa} {fn : List He.DefD} {a : Str} {Fg : M D → M D} {m : Ex → Sx} (S : Says fa fn K mg) (i j : Nat) {d : He.DefD} (hd : fn[i]? = some d) {x : Str} (hx : fa[j]? = some (.glo x)) (hat : d.at_ = (x, none)) (hdf : d.dfl = []) (hkw : d.kwd = []) (sc : FnScope N [a] d.scope) (hN : N[0]? = some a) (hv : Vis d.scope a)
    (hb : ∀ (kV doc pm : Value) (an : Option Addr) (cdv ct : Value) (us : List Value), us.length = [a].length → bindArgs (PySem.W.fnOf d.name d.qual d.params d.body d.scope .none kV doc pm an cdv ct) ⟨us, []⟩ = pure ([a].zip us))
    (hF : ∀ (f : Addr) (act : M D) (st : Store) (d : D) (st' : Store), Fg act st = .ok d st' → callS .froz (m (eAct f act)) [.raw f] st = .ok d st') (hN' : ∀ (act : M D) (st : Store) c fs st', Fg act st ≠ .exc c fs st')
    (hbody : ∀ (f : Addr) (act : M D) (g : Addr) (cd : Value) (A : Around) (outer : List Env) (s : Shared) (W : Wd) (E : XK), W.T = T → Gd (bodyC P w K mg base N d.qual d.scope g cd A outer s W E) k → PassesOwn (model P w) (A.deeper (PyProof.Rows.envOfC d.qual d.scope s.heap.objs.size g cd)) (PyProof.Rows.envOfC d.qual d.scope s.heap.objs.size g cd) (bodyC P w K mg base N d.qual d.scope g cd A outer s W E).X.xe →
      ActS (bodyC P w K mg base N d.qual d.scope g cd A outer s W E) a f act → SSs (bodyC P w K mg base N d.qual d.scope g cd A outer s W E) .froz d.body (m (eAct f act)))
    (hda : (a == ("__debug__" : Str)) = false := by decide) (hca : (a == ("__classdict__" : Str)) = false := by decide) : PrmL P w K mg base T (k + 1) x Fg := by
  obtain ⟨fd, FD⟩ := S.c.def_ i hd
  have hmg := S.go j hx
  have ef : He.fAd K d.at_ = He.ga K x := by rw [hat]; rfl
  have e1 : d.dvs K = [] := by unfold He.DefD.dvs; rw [hdf]; rfl
  have e2 : d.kws K = [] := by unfold He.DefD.kws; rw [hkw]; rfl
  rw [e1, e2, ef] at FD
  obtain ⟨oc, od, dV, kV, doc, pm, an, cdv, ct, osl, hfd, lk, hcd, _, _⟩ := FD.ex
  have hcode : fd.code = cdv := by rw [hfd]
  refine ⟨_, a, N, d.qual, d.scope, cdv, hmg, FD.kp, hN, hv, hda, hca, fun A outer s W st f act Q E hr hg e0 kW hT hact ho => ?_⟩
  have bi : BindsTo s fd ⟨[.ref f], []⟩ ([a].zip [.ref f]) := by
    have b := FD.bindsN hb s [.ref f] (e0.mod.kin.keeps fun b o e => (e0.bs b o e).1) rfl
    exact b
  refine run_body (ds := [.raw f]) (vs := [.ref f]) FD sc S.sys hr hg e0 bi (.cons rfl .nil) kW (by simp only [RpL, Rp]; exact ⟨_, _, rfl, rfl, rfl⟩) rfl (fun cd ⟨_, _, _, _, hc, _⟩ G hp => ?_) (by
    cases q : Fg act st with
    | ok d st' => rw [hF f act st d st' q]; rw [q] at ho; exact ho
    | exc c fs st' => exact absurd q (hN' act st c fs st')
    | stuck => rw [q] at ho; exact False.elim ho)
  have : cd = cdv := hc.symm.trans hcode
  subst this
  exact hbody f act _ _ A outer s W E hT G hp hact
end
end Sm


set_option Elab.async false
set_option linter.all false
set_option maxRecDepth 100000
set_option maxHeartbeats 1000000
/-! Sm33: the end of a law with tables of code objects. -/
namespace Sm
open PySem PySem.Spec L2
section
open PyProof.Rows
variable {P : Program} {w : World} {K : PySem.W.Frag} {mg mb : Str → Option Value} {fa a : Addr} {s₁ : Shared} {vs : List Value} {ns : List Int} {cs : List (Addr × Addr)}
/-- the heap behind the top: the script and the empty tables are told by themselves -/
theorem law_endT (KX : K.In s₁.heap) (hns : s₁.heap.Ns mainGlobals mg) (hb : s₁.heap.Ns builtinsNs mb) (hbb : ∀ x : Str, x ≠ "__name__" → mb x = bootBuiltins x) (hlim : s₁.heap.NoLimit) (hg : s₁.gens = #[])
    (tE : ∀ p ∈ cs, s₁.heap.get? p.2 = some { cls := .none, data := .fields #[] }) (tK : ∀ p ∈ cs, K.lookup p.2 = none) (tC : ∀ p ∈ cs, PySem.W.CodeHd s₁.heap p.1 p.2)
    (hbm : ∃ (bm : Addr) (ob : Obj), mg "__builtins__" = some (.ref bm) ∧ bm ≠ builtinsNs ∧ s₁.heap.get? bm = some ob ∧ ob.cls = .type "module" ∧ ob.dict = some builtinsNs ∧ ob.data = .plain)
    (ha : s₁.heap.get? a = some { cls := .type "list", data := .seq vs.toArray }) (hi : IntsAre vs ns) (hl : ns.length ≤ sizeLine)
    (go : ∀ (base : Heap) (H : Hp), K.In base → base.Ns mainGlobals mg → (∀ p ∈ cs, LamX.TabB base mg p.1 p.2) → SqL K H a (ns.map V.int) → (∀ p ∈ cs, H p.2 = some (.tbl #[])) → (∀ b o, H b = some o → nT o = true ∨ b ∈ cs.map (·.2)) → a ∉ cs.map (·.2) → Env0 P w K mg base callerA [] s₁ H →
      codeAny (model P w) callerA (.call (.ref fa) ⟨[.ref a], []⟩) (CR (L2.CX P w) [] P w H s₁ (fun v _ => v = .bl true) fun _ _ _ => False) s₁) :
    codeAny (model P w) callerA (.call (.ref fa) ⟨[.ref a], []⟩) (fun r s' => r = .ok (.ret (.bool true)) ∧ OldK s₁.heap s'.heap ∧ s'.os = s₁.os ∧ AllBare s'.gens) s₁ := by
  have rv := vals_ints hi
  have lenV := hi.length
  have tIn : ∀ p ∈ cs, p.2 ∈ cs.map (·.2) := fun p hp => List.mem_map.mpr ⟨p, hp, rfl⟩
  have tAt : ∀ b ∈ cs.map (·.2), s₁.heap.get? b = some { cls := .none, data := .fields #[] } := fun b hb => by
    obtain ⟨p, hp, rfl⟩ := List.mem_map.mp hb
    exact tE p hp
  have aNo : a ∉ cs.map (·.2) := fun z => by
    have q := (tAt a z).symm.trans ha
    injection q with q
    injection q with q1 q2 q3
    cases q1
  have main : ∀ H : Hp, (∀ b u, H b = some u → (b = a ∧ K.lookup a = none ∧ ∃ o xs, u = .frz o (.lst xs)) ∨ (b ∈ cs.map (·.2) ∧ u = .tbl #[])) → (∀ b ∈ cs.map (·.2), H b = some (.tbl #[])) → SqL K H a (ns.map V.int) → HOk P w H s₁.heap →
      codeAny (model P w) callerA (.call (.ref fa) ⟨[.ref a], []⟩) (fun r s' => r = .ok (.ret (.bool true)) ∧ OldK s₁.heap s'.heap ∧ s'.os = s₁.os ∧ AllBare s'.gens) s₁ := by
    intro H hH hT hS hok
    -- what is neither a list nor an empty record is hidden by nothing
    have bare : ∀ {b : Addr} {o : Obj}, s₁.heap.get? b = some o → (∀ its n, o.data ≠ .seq its n) → o.data ≠ .fields #[] → H b = none := fun {b o} e n1 n2 => by
      cases q : H b with
      | none => rfl
      | some u =>
        rcases hH b u q with ⟨z, _⟩ | ⟨z, _⟩
        · rw [z, ha] at e; cases e; exact absurd rfl (n1 _ _)
        · rw [tAt b z] at e; cases e; exact absurd rfl n2
    have nsK : ∀ {b : Addr} {m : Str → Option Value}, s₁.heap.Ns b m → (hidT s₁.heap H).Ns b m := fun {b m} ⟨o, es, ep, e, d, r⟩ => ⟨o, es, ep, hidT_get e (bare e (fun its n z => by rw [d] at z; cases z) (fun z => by rw [d] at z; cases z)), d, r⟩
    have hKb : K.In (hidT s₁.heap H) := fun b o e => hidT_get (KX b o e) (by
      cases q : H b with
      | none => rfl
      | some u =>
        rcases hH b u q with ⟨z, n, _⟩ | ⟨z, _⟩
        · rw [z, n] at e; cases e
        · obtain ⟨p, hp, rfl⟩ := List.mem_map.mp z
          rw [tK p hp] at e; cases e)
    have hM : Mod K mg (hidT s₁.heap H) := ⟨hKb, nsK hns, ⟨mb, nsK hb, hbb⟩, let ⟨mc, h1, h2⟩ := hlim; ⟨mc, nsK h1, h2⟩⟩
    have TB : ∀ p ∈ cs, LamX.TabB (hidT s₁.heap H) mg p.1 p.2 := fun p hp => by
      have hTp := tE p hp
      refine ⟨?_, ?_, fun z => ?_⟩
      · obtain ⟨o, us, file, tf, flags, tg, inF, text, tt, c1, c2, c3, c4, c5⟩ := tC p hp
        refine ⟨o, us, file, tf, flags, tg, inF, text, tt, hidT_get c1 (bare c1 (fun its n z => ?_) fun z => ?_), c2, c3, c4, c5⟩
        · rw [c3] at z; cases z
        · rw [c3] at z; cases z; simp at c4
      · obtain ⟨bm, ob, b1, b2, b3, b4, b5, b6⟩ := hbm
        have pl : H bm = none := bare b3 (fun its n z => by rw [b6] at z; cases z) (fun z => by rw [b6] at z; cases z)
        refine ⟨bm, ob, b1, b2, fun q => ?_, fun q => ?_, hidT_get b3 pl, b4, b5, b6⟩
        · obtain ⟨o, es, ep, e, hd, _⟩ := hns
          rw [q, e] at b3; cases b3; rw [hd] at b6; cases b6
        · rw [q, hTp] at b3; cases b3; cases b6
      · obtain ⟨o, es, ep, e, hd, _⟩ := hns
        rw [z, hTp] at e; cases e; cases hd
    have e0 : Env0 P w K mg (hidT s₁.heap H) callerA [] s₁ H := ⟨rfl, hM, fun b o e => of_hidT e, Nat.le_of_eq (hidT_size _ _), trivial, fun b hb => absurd (show b ∈ ([] : List Addr) from hb) (by simp), hok, .of_eq hg⟩
    have hN : ∀ b o, H b = some o → nT o = true ∨ b ∈ cs.map (·.2) := fun b o e => by
      rcases hH b o e with ⟨_, _, ob, xs, z⟩ | ⟨z, _⟩
      · exact .inl (by rw [z]; rfl)
      · exact .inr z
    refine codeAny_mono (go (hidT s₁.heap H) H hKb (nsK hns) TB hS (fun p hp => hT _ (tIn p hp)) hN aNo e0) fun r s' h => ?_
    cases r with
    | error e =>
      obtain ⟨_, _, _, _, _, _, _, _, _, _, _, _, w⟩ := h
      exact w.elim
    | ok fl =>
      cases fl with
      | ret u =>
        obtain ⟨v, H', os, bareG, un, hok', r', q⟩ := h
        have q' : v = .bl true := q
        subst q'
        obtain rfl : u = Value.bool true := r'
        have rest : ∀ b o, b ∉ cs.map (·.2) → s₁.heap.get? b = some o → s'.heap.get? b = some o := fun b o nb e => by
          cases q : H b with
          | none => exact un.keep b o e q (fun z => absurd (show b ∈ ([] : List Addr) from z) (by simp)) (by simp)
          | some u =>
            rcases hH b u q with ⟨_, _, ob, xs, rfl⟩ | ⟨z, _⟩
            · obtain ⟨e1, _⟩ := hok b _ q
              obtain ⟨e2, _⟩ := hok' b _ (un.frzs b ob _ q)
              rw [e] at e1; cases e1
              exact e2
            · exact absurd z nb
        have tabs : ∀ p ∈ cs, ∃ more : Array Value, s'.heap.get? p.2 = some { cls := .none, data := .fields more } := fun p hp => by
          obtain ⟨more, z⟩ := un.tbls p.2 #[] (hT _ (tIn p hp))
          exact ⟨_, hok' p.2 _ z⟩
        refine ⟨rfl, ⟨fun b o e => ?_, fun b o e => ?_⟩, os, bareG⟩
        · by_cases hbt : b ∈ cs.map (·.2)
          · obtain ⟨p, hp, rfl⟩ := List.mem_map.mp hbt
            obtain ⟨more, hm⟩ := tabs p hp
            rw [tE p hp] at e
            cases e
            exact .inr (.inl ⟨((tC p hp).tab (tE p hp)).isCodeTable, rfl, #[], more, rfl, by rw [Array.empty_append]; exact hm⟩)
          · exact .inl (rest b o hbt e)
        · by_cases hbt : b ∈ cs.map (·.2)
          · obtain ⟨p, hp, rfl⟩ := List.mem_map.mp hbt
            obtain ⟨more, hm⟩ := tabs p hp
            exact ⟨_, hm⟩
          · exact ⟨o, rest b o hbt e⟩
      | next => exact False.elim h
      | brk => exact False.elim h
      | cont => exact False.elim h
  cases hk : K.lookup a with
  | some o =>
    have e := KX a o hk
    rw [ha] at e
    cases e
    refine main (fun b => if b ∈ cs.map (·.2) then some (.tbl #[]) else none) (fun b u z => ?_) (fun b hb => if_pos hb) (.inr ⟨_, vs.toArray, _, hk, rfl, rfl, rfl, by rw [List.size_toArray, lenV]; exact hl, by simpa using rv⟩) fun b u z => ?_
    · by_cases q : b ∈ cs.map (·.2)
      · have z' := (if_pos q).symm.trans z
        cases z'
        exact .inr ⟨q, rfl⟩
      · have z' := (if_neg q).symm.trans z
        cases z'
    · by_cases q : b ∈ cs.map (·.2)
      · have z' := (if_pos q).symm.trans z
        cases z'
        exact tAt b q
      · have z' := (if_neg q).symm.trans z
        cases z'
  | none =>
    refine main (fun b => if b = a then some (.frz { cls := .type "list", data := .seq vs.toArray } (.lst (ns.map V.int))) else if b ∈ cs.map (·.2) then some (.tbl #[]) else none) (fun b u z => ?_)
      (fun b hb => (if_neg (fun (e : b = a) => aNo (e ▸ hb))).trans (if_pos hb)) (.inl (.inr ⟨{ cls := .type "list", data := .seq vs.toArray }, if_pos rfl⟩)) fun b u z => ?_
    · by_cases q : b = a
      · have z' := (if_pos q).symm.trans z
        cases z'
        exact .inl ⟨q, hk, _, _, rfl⟩
      · have z1 := (if_neg q).symm.trans z
        by_cases y : b ∈ cs.map (·.2)
        · have z' := (if_pos y).symm.trans z1
          cases z'
          exact .inr ⟨y, rfl⟩
        · have z' := (if_neg y).symm.trans z1
          cases z'
    · by_cases q : b = a
      · have z' := (if_pos q).symm.trans z
        cases z'
        subst q
        exact ⟨ha, by rw [List.length_map]; exact hl, vs, _, rv, ha⟩
      · have z1 := (if_neg q).symm.trans z
        by_cases y : b ∈ cs.map (·.2)
        · have z' := (if_pos y).symm.trans z1
          cases z'
          exact tAt b y
        · have z' := (if_neg y).symm.trans z1
          cases z'
end
/-- the law's def at the caller's place -/
theorem law_runT {P : Program} {w : World} {K : PySem.W.Frag} {mg : Str → Option Value} {base : Heap} {T : List (Addr × Str)} {k : Nat} {f a : Addr} {fd : FuncData} {x : Str} {F : Fx} {s : Shared} {H : Hp} {ns : List Int} {ts : List Addr} (FG : FnG P w K mg base T k f fd [x] .froz F) (hr : Room k callerA) (e0 : Env0 P w K mg base callerA [] s H)
    (hb : BindsTo s fd ⟨[.ref a], []⟩ [(x, .ref a)]) (hS : SqL K H a (ns.map V.int)) (hT : ∀ p ∈ T, H p.1 = some (.tbl #[])) (hN : ∀ b o, H b = some o → nT o = true ∨ b ∈ ts) (hts : ∀ b ∈ ts, H b = some (.tbl #[])) (ha : a ∉ ts) (hF : ∃ st', F [scrD ns] [] = .ok (.bl true) st') :
    codeAny (model P w) callerA (.call (.ref f) ⟨[.ref a], []⟩) (CR (L2.CX P w) [] P w H s (fun v _ => v = .bl true) fun _ _ _ => False) s := by
  obtain ⟨st', hF⟩ := hF
  let W : Wd := { H := H, G := fun b => if b ∈ ts then none else H b, as := [], T := T }
  have hG : ∀ b o, W.G b = some o → b ∉ ts ∧ H b = some o := fun b o h => by
    have h : (if b ∈ ts then none else H b) = some o := h
    by_cases q : b ∈ ts
    · rw [if_pos q] at h; cases h
    · rw [if_neg q] at h; exact ⟨q, h⟩
  have ok : W.Ok K mg [] := ⟨fun b o h => (hG b o h).2, List.nodup_nil, fun _ h => (List.not_mem_nil h).elim, rfl, fun i ds h => by simp at h, fun p hp => LamX.TabS.nil (hT p hp), fun b o h => (hN b o (hG b o h).2).elim id fun z => absurd z (hG b o h).1⟩
  have hSG : SqL K W.G a (ns.map V.int) := by
    have e : W.G a = H a := if_neg ha
    rcases hS with (h | ⟨o, h⟩) | h
    · exact .inl (.inl (e.trans h))
    · exact .inl (.inr ⟨o, e.trans h⟩)
    · exact .inr h
  refine FG.run callerA [] s ⟨[.ref a], []⟩ [.ref a] [.ref a] W [] [scrD ns] _ _ hr rfl e0 hb (.cons rfl .nil) ok rfl ?_ rfl ?_
  · simp only [RpL, scrD, Rp]
    exact ⟨.ref a, [], rfl, ⟨a, ns.map V.int, rfl, hSG, rpl_ints ns⟩, rfl⟩
  · rw [hF]
    intro z W' e k r
    have r' : Rp K mg W'.as W'.G (.bl true) z := r
    simpa only [Rp] using r'
/-- a law with exceptions, over a head by facts -/
theorem walk_ofE {l : PySem.W.OpenLaw} {n k : Nat} {q : Program} {loose : List Str} {XP : (Str → Option Value) → Heap → Prop} {YP : World → Heap → Prop} {d : DefRec} {x nm : Str} {Fl : Fx} {tf : List He.Defn}
    (hn : l.most = some n) (hn2 : n ≤ sizeLine) (hdf : d.params.defaults = []) (hr : Room k callerA) (hnm : d.name = nm)
    (F : ∀ (w : World) (mg : Str → Option Value) (h : Heap), YP w h → h.Ns mainGlobals mg → ∃ K : PySem.W.Frag, K.In h ∧ (∀ p ∈ tf, PySem.W.codeHdIn K (He.cT K p).1 (He.cT K p).2 = true) ∧ (∀ p ∈ tf, K.lookup (He.cT K p).2 = none) ∧ (∀ p ∈ tf, h.get? (He.cT K p).2 = some { cls := .none, data := .fields #[] }) ∧
      ∀ base : Heap, (∀ p ∈ tf, LamX.TabB base mg (He.cT K p).1 (He.cT K p).2) → Prm l.prog w K mg base (tabT K tf) k nm [x] .froz Fl)
    (hF : ∀ ns : List Int, ns.length ≤ n → ∃ st', Fl [scrD ns] [] = .ok (.bl true) st') :
    PySem.W.WalkO q loose XP YP l.row.toRowW d [] (fun f vs => PySem.call f vs) := by
  refine Att.attach_callB hn hdf fun w s₀ s₁ mg mb fa o pm cd doc a vs ns G Y ho hd hcd hmg hobj hints hlen hbits hg => ?_
  obtain ⟨K, KX, hC, hO, hE, hP⟩ := F w mg _ Y G.T.g
  have mem : ∀ {p : Addr × Addr}, p ∈ tf.map (He.cT K) → ∃ r ∈ tf, He.cT K r = p := fun {p} hp => by
    obtain ⟨r, hr, e⟩ := List.mem_map.mp hp
    exact ⟨r, hr, e⟩
  refine law_endT (cs := tf.map (He.cT K)) KX G.T.g G.T.b G.T.builtins G.T.nolimit hg (fun p hp => ?_) (fun p hp => ?_) (fun p hp => ?_) G.T.bmain hobj hints (Nat.le_trans hlen hn2) fun base H hK hNs TB hS hT hN hA e0 => ?_
  · obtain ⟨r, hr, rfl⟩ := mem hp; exact hE r hr
  · obtain ⟨r, hr, rfl⟩ := mem hp; exact hO r hr
  · obtain ⟨r, hr, rfl⟩ := mem hp; exact PySem.W.codeHd_of_K KX (hC r hr)
  · obtain ⟨f, fd, hm, hb, _, FG⟩ := hP base fun p hp => TB _ (List.mem_map.mpr ⟨p, hp, rfl⟩)
    rw [hnm] at hmg
    cases hm.symm.trans hmg
    refine law_runT FG hr e0 (hb s₁ [.ref a] KX rfl) hS (fun p hp => ?_) hN (fun b hb => ?_) hA (hF ns hlen)
    · obtain ⟨r, hr, rfl⟩ := List.mem_map.mp hp
      exact hT (He.cT K r) (List.mem_map.mpr ⟨r, hr, rfl⟩)
    · obtain ⟨p, hp, rfl⟩ := List.mem_map.mp hb
      exact hT p hp
end Sm


set_option Elab.async false
set_option linter.all false
set_option maxRecDepth 100000
set_option maxHeartbeats 1000000
/-! Sm34: what the printed terms of laws with exceptions use. -/
namespace Sm
open PySem PySem.Spec L2
open PySem PySem.Spec L2
theorem Gd.tr {C : Cn} {k : Nat} {W : WX} {pn : List (Addr × Obj)} {xe : Value → Shared → Prop} (G : Gd C k) (tk : Takes (C.X.tr pn xe) W) : Gd (C.tr W pn xe) k := ⟨G.calm, G.sys, G.room, G.gu, tk, G.nd⟩
/-- a context within an except suite -/
structure Gu (C : Cn) : Prop where
  sys : Sysm C.X.K
  un : C.X.A.units + 64 < cLine
  gu : C.X.A.guards = some []
  nd : C.X.N.Nodup
theorem Gd.su {C : Cn} {k : Nat} (G : Gd C k) (a : Addr) (oe : Obj) (pn : List (Addr × Obj)) : Gu (C.su a oe pn) := ⟨G.sys, G.un, G.gu, G.nd⟩
/-! ### defs as values -/
def fxTab (l : List (Str × Fx)) : Str → Option Fx := fun y => l.lookup y
theorem tab_nil {C : Cn} {k n : Nat} : TabP C k n (fxTab []) := fun y F h => by cases h
theorem tab_cons {C : Cn} {k n j : Nat} {y : Str} {F : Fx} {ps : List Str} {l : List (Str × Fx)} (p : Prm C.X.prog C.X.w C.X.K C.X.mg C.X.base C.W0.T j y ps .froz F) (hj : j ≤ k) (hn : n = ps.length) (h : TabP C k n (fxTab l)) : TabP C k n (fxTab ((y, F) :: l)) := fun z F' e => by
  have e' : (match z == y with | true => some F | false => l.lookup z) = some F' := e
  cases q : z == y with
  | true =>
    rw [q] at e'
    cases e'
    rw [beq_iff_eq.mp q]
    exact ⟨j, ps, hj, hn, p⟩
  | false =>
    rw [q] at e'
    exact h z F' e'
/-! ### handlers by classes -/
def hTab (l : List (Str × (Addr → Sx))) (c : Str) : Addr → Sx := match l.lookup c with
  | some f => f
  | none => fun _ => sNever
def HSu (C : Cn) (κ : Kd) (ss : List Stmt) (l : List (Str × (Addr → Sx))) : Prop := ∀ c f, l.lookup c = some f → ∀ (cl a : Addr) (oe : Obj) (pn : List (Addr × Obj)), C.X.mg c = some (.ref cl) → Zc (.ref cl) none oe → (∃ vs, oe.data = .fields vs) → SSs (C.su a oe pn) κ ss (f a)
theorem hsu_nil {C : Cn} {κ : Kd} {ss : List Stmt} : HSu C κ ss [] := fun c f h => by cases h
theorem hsu_cons {C : Cn} {κ : Kd} {ss : List Stmt} {l : List (Str × (Addr → Sx))} {c : Str} {A : Addr} {f : Addr → Sx} (gc : C.X.mg c = some (.ref A)) (h : ∀ (a : Addr) (oe : Obj) (pn : List (Addr × Obj)), Zc (.ref A) none oe → (∃ vs, oe.data = .fields vs) → SSs (C.su a oe pn) κ ss (f a)) (hl : HSu C κ ss l) : HSu C κ ss ((c, f) :: l) := fun c' f' e => by
  have e' : (match c' == c with | true => some f | false => l.lookup c') = some f' := e
  cases q : c' == c with
  | true =>
    rw [q] at e'
    cases e'
    intro cl a oe pn g hz hf
    rw [beq_iff_eq.mp q, gc] at g
    cases g
    exact h a oe pn hz hf
  | false =>
    rw [q] at e'
    exact hl c' f' e'
theorem lookup_of_mem {β : Type} {c : Str} : ∀ {l : List (Str × β)}, c ∈ l.map (·.1) → ∃ f, l.lookup c = some f
  | [], h => by simp at h
  | (d, f) :: l, h => by
    have e : List.lookup c ((d, f) :: l) = (match c == d with | true => some f | false => l.lookup c) := rfl
    rw [e]
    cases q : c == d with
    | true => exact ⟨f, rfl⟩
    | false =>
      simp only [List.map_cons, List.mem_cons] at h
      rcases h with h | h
      · rw [h] at q; simp at q
      · exact lookup_of_mem h
noncomputable def sTryL (m : Ex) (i : Nat) (l : List (Str × (Addr → Sx))) : Sx := sTry m i (l.map (·.1)) (hTab l)
section
variable {C : Cn} {κ κe : Kd} {k i : Nat} {x n : Str} {CE : Addr} {e : Expr} {m : Ex} {b₀ : Stmt} {suite : List Stmt} {l : List (Str × (Addr → Sx))} {np ep pos pos' : Pos}
theorem ss_tryL (G : Gd C k) (hs : C.X.stack = C.X.env :: C.X.outer) (hf : C.X.env.frame = some C.X.env.locals) (nm : Nm C i n) (hln : C.X.env.kindOf n = some .local) (hg : Gl C.X x) (gE : C.X.mg x = some (.ref CE))
    (he : ∀ (W : WX) (pn : List (Addr × Obj)) (xe : Value → Shared → Prop), Takes (C.X.tr pn xe) W → SE (C.tr W pn xe) κe e m)
    (hm : ∀ c ∈ l.map (·.1), ∀ cl, C.X.mg c = some (.ref cl) → PySem.W.exmOne C.X.K (.ref cl) (.ref CE) = some true) (hsu : HSu C κ (b₀ :: suite) l)
    (hsw : ∀ (pn : List (Addr × Obj)) (xe : Value → Shared → Prop), swapsWith e none ep.line (C.X.tr pn xe).env = pure false := by intro _ _; rfl) (hdb : (x == ("__debug__" : Str)) = false := by decide) :
    SS C κ (.Try [.Expr e ep] [.ExceptHandler (some (.Name x np)) (some n) (b₀ :: suite) pos'] [] [] pos) (sTryL m i l) :=
  ss_try G hs hf nm hln hg gE he hm (fun c hc cl a oe pn g hz hfl => by
    obtain ⟨f, e⟩ := lookup_of_mem hc
    have : hTab l c = f := by unfold hTab; rw [e]
    rw [this]
    exact hsu c f e cl a oe pn g hz hfl) hsw hdb
end
section
variable {P : Program} {fa : List He.Fa} {fn : List He.DefD} {cls : List ClsD} {ce : Str} {tf : List He.Defn} {K : PySem.W.Frag} {mg : Str → Option Value} {base : Heap} {T : List (Addr × Str)}
theorem SaysE.hm (S : SaysE P fa fn cls ce tf K mg base T) {cs : List Str} (h : cs = cls.map (·.name)) : ∀ c ∈ cs, ∀ cl, mg c = some (.ref cl) → PySem.W.exmOne K (.ref cl) (.ref (He.ga K ce)) = some true := fun c hc cl g => by
  rw [h] at hc
  obtain ⟨d, hd, rfl⟩ := List.mem_map.mp hc
  rw [S.cl d hd] at g
  cases g
  exact S.exm d hd
theorem SaysE.mem {j : Nat} {d : ClsD} (_ : SaysE P fa fn cls ce tf K mg base T) (h : cls[j]? = some d) : d ∈ cls := List.mem_of_getElem? h
theorem kitE {t c : Value} {b b' : Bool} (h : PySem.W.kitOne K t c = some b) (e : b = b') : PySem.W.kitOne K t c = some b' := e ▸ h
end
/-! ### running -/
theorem no_put {e : En} {i : Nat} {b : Bool} {d : D} : (e.put i b d).no i = e.no i := by
  funext j
  unfold En.no En.put
  by_cases q : j = i
  · rw [if_pos q, if_pos q]
  · rw [if_neg q, if_neg q, if_neg q]
theorem no_putN {e : En} {i j : Nat} {b : Bool} {d : D} (h : (j == i) = false) : (e.put j b d).no i = (e.no i).put j b d := by
  have h : j ≠ i := by simpa using h
  funext l
  show (if l = i then none else if l = j then some (b, d) else e l) = if l = j then some (b, d) else if l = i then none else e l
  by_cases q : l = i
  · rw [if_pos q, if_neg (fun z => h (z.symm.trans q)), if_pos q]
  · rw [if_neg q, if_neg q]
theorem no_at {e : En} {i j : Nat} {r : Option (Bool × D)} (h : e j = r) (hj : (j == i) = false := by rfl) : (e.no i) j = r := by
  have h' : j ≠ i := by simpa using hj
  exact (if_neg h').trans h
theorem ev_isE {env : En} {st : Store} {i : Nat} {a : Addr} {b : Bool} (h : env i = some (false, .raw a)) : eIsE i a b env st = .ok (.bl b) st := by
  unfold eIsE
  rw [h]
  show (if a = a then (ret (D.bl b) : M D) else halt) st = _
  rw [if_pos rfl]; rfl
theorem ev_act {env : En} {f : Addr} {act : M D} (h : env 0 = some (false, .raw f)) : eAct f act env = act := by
  unfold eAct
  rw [h]
  exact if_pos rfl
theorem ev_callV {env : En} {st st1 st2 : Store} {i : Nat} {y : Str} {l : List (Str × Fx)} {F : Fx} {ml : Lx} {ds : List D} {r : Res D} (h : env i = some (false, .glo y)) (hF : l.lookup y = some F) (hm : ml env st = .ok ds st1) (hr : F ds st1 = r) : eCallV i (fxTab l) ml env st = r := by
  unfold eCallV
  rw [h]
  show (match fxTab l y with | some F => bnd (ml env) F | none => halt) st = _
  have : fxTab l y = some F := hF
  rw [this]
  show bnd (ml env) F st = _
  rw [bnd_eq hm, hr]
/-- what is said of an action -/
def sdF (ok : D) (ws : List (Str × D)) (act : M D) : M D := fun st => match act st with
  | .ok _ st' => .ok ok st'
  | .exc c [] st' => (match ws.lookup c with
    | some w => .ok w st'
    | none => .stuck)
  | _ => .stuck
theorem sdF_no {ok : D} {ws : List (Str × D)} (act : M D) (st : Store) (c : Str) (fs : List (Str × D)) (st' : Store) : sdF ok ws act st ≠ .exc c fs st' := fun h => by
  unfold sdF at h
  cases q : act st with
  | ok d s => rw [q] at h; cases h
  | stuck => rw [q] at h; cases h
  | exc c' fs' s =>
    rw [q] at h
    cases fs' with
    | cons _ _ => cases h
    | nil =>
      have h : (match ws.lookup c' with | some w => Res.ok w s | none => .stuck) = Res.exc c fs st' := h
      cases z : ws.lookup c' with
      | none => rw [z] at h; cases h
      | some w => rw [z] at h; cases h
theorem sdF_ok {ok d : D} {ws : List (Str × D)} {act : M D} {st st' : Store} (h : act st = .ok d st') : sdF ok ws act st = .ok ok st' := by
  unfold sdF; rw [h]
theorem sdF_exc {ok w : D} {ws : List (Str × D)} {act : M D} {st st' : Store} {c : Str} (h : act st = .exc c [] st') (hw : ws.lookup c = some w) : sdF ok ws act st = .ok w st' := by
  unfold sdF; rw [h]
  show (match ws.lookup c with | some w => Res.ok w st' | none => .stuck) = _
  rw [hw]
/-- what sdF says, the def says -/
theorem said_of {ok : D} {ws : List (Str × D)} {m : Ex → Sx} (h1 : ∀ (f : Addr) (act : M D) (st : Store) (d : D) (st' : Store), act st = .ok d st' → callS .froz (m (eAct f act)) [.raw f] st = .ok ok st')
    (h2 : ∀ p ∈ ws, ∀ (f : Addr) (act : M D) (st st' : Store), act st = .exc p.1 [] st' → callS .froz (m (eAct f act)) [.raw f] st = .ok p.2 st') :
    ∀ (f : Addr) (act : M D) (st : Store) (d : D) (st' : Store), sdF ok ws act st = .ok d st' → callS .froz (m (eAct f act)) [.raw f] st = .ok d st' := fun f act st d st' h => by
  unfold sdF at h
  cases q : act st with
  | ok x s => rw [q] at h; cases h; exact h1 f act st x _ q
  | stuck => rw [q] at h; cases h
  | exc c fs s =>
    rw [q] at h
    cases fs with
    | cons _ _ => cases h
    | nil =>
      have h : (match ws.lookup c with | some w => Res.ok w s | none => .stuck) = Res.ok d st' := h
      cases z : ws.lookup c with
      | none => rw [z] at h; cases h
      | some w =>
        rw [z] at h
        cases h
        have key : ∀ (l : List (Str × D)), l.lookup c = some d → (c, d) ∈ l := by
          intro l
          induction l with
          | nil => intro e; cases e
          | cons p l ih =>
            intro e
            obtain ⟨a, b⟩ := p
            have e : (match c == a with | true => some b | false => l.lookup c) = some d := e
            cases y : c == a with
            | true => rw [y] at e; cases e; rw [beq_iff_eq.mp y]; exact List.mem_cons_self
            | false => rw [y] at e; exact List.mem_cons_of_mem _ (ih e)
        exact h2 _ (key _ z) f act st _ q
end Sm
namespace Sm
open PySem PySem.Spec L2
open PySem PySem.Spec L2
section
variable {env : En} {st st1 st2 : Store} {d x y : D} {mo : Ex} {ml : Lx}
theorem ev_count (h1 : mo env st = .ok d st1) (h2 : ml env st1 = .ok [x] st2) (h3 : countD d x = some y) (hk : (kCount d).isSome = true := by rfl) : eMt kCount (fun d => g1 fun x => lift (countD d x)) mo ml env st = .ok y st2 := by
  unfold eMt
  rw [bnd_eq h1, if_pos hk, bnd_eq h2]
  show lift (countD d x) st2 = _
  rw [h3]; rfl
theorem ev_idxD (h1 : mo env st = .ok d st1) (h2 : ml env st1 = .ok [x] st2) (h3 : indexD d x = some y) (hk : (kIndex d).isSome = true := by rfl) : eMt kIndex (fun d => g1 fun x => lift (indexD d x)) mo ml env st = .ok y st2 := by
  unfold eMt
  rw [bnd_eq h1, if_pos hk, bnd_eq h2]
  show lift (indexD d x) st2 = _
  rw [h3]; rfl
end
theorem ev_excNx {m : Ex} {i : Nat} {l : List (Str × (Addr → Sx))} {env E : En} {st st1 st2 : Store} {c : Str} (e : m env st = .exc c [] st1) (hc : c ∈ l.map (·.1)) (hh : ∀ a, ∃ g, hTab l c a (env.put i false (.raw a)) st1 = .ok (.nx g) st2 ∧ g.no i = E) : sTryL m i l env st = .ok (.nx E) st2 :=
  ev_tryExc e hc fun a => let ⟨g, h1, h2⟩ := hh a; ⟨.nx g, h1, congrArg Fl.nx h2⟩
theorem ev_excRt {m : Ex} {i : Nat} {l : List (Str × (Addr → Sx))} {env : En} {st st1 st2 : Store} {c : Str} {w : D} (e : m env st = .exc c [] st1) (hc : c ∈ l.map (·.1)) (hh : ∀ a, hTab l c a (env.put i false (.raw a)) st1 = .ok (.rt w) st2) : sTryL m i l env st = .ok (.rt w) st2 :=
  ev_tryExc e hc fun a => ⟨.rt w, hh a, rfl⟩
theorem ev_okNx {m : Ex} {i : Nat} {l : List (Str × (Addr → Sx))} {env : En} {st st1 : Store} {d : D} (e : m env st = .ok d st1) : sTryL m i l env st = .ok (.nx env) st1 := ev_tryOk e
/-- the word is the only thing that is asked -/
theorem rt_word {r : Res Fl} {st : Store} {a b : D} (h : r = .ok (.rt a) st) (e : a = b) : r = .ok (.rt b) st := e ▸ h
end Sm
namespace Sm
open PySem PySem.Spec L2
theorem hTab_run {l : List (Str × (Addr → Sx))} {c : Str} {f : Addr → Sx} {a : Addr} {env : En} {st : Store} {r : Res Fl} (h : l.lookup c = some f) (hr : f a env st = r) : hTab l c a env st = r := by
  unfold hTab; rw [h]; exact hr
end Sm


set_option Elab.async false
set_option linter.all false
set_option maxRecDepth 100000
set_option maxHeartbeats 2000000
/-! Cm1: what the laws k88 to k95 have in common: small judges, the hand, drawing, deep things, flags. -/
namespace Sm
open PySem PySem.Spec L2
local macro_rules | `(tactic| and_intros) => `(tactic| first
  | (show _ = _; with_reducible assumption)
  | with_reducible exact eC_eq
  | with_reducible exact lNil_eq
  | with_reducible exact ev_pNo
  | with_reducible exact put_eq
  | (with_reducible refine put_no ?_ (by rfl)) <;> and_intros
  | (with_reducible refine clr_no ?_ (by rfl)) <;> and_intros
  | (with_reducible apply ev_var) <;> try and_intros
  | (with_reducible apply ev_varB) <;> try and_intros
  | (with_reducible apply ev_cons) <;> try and_intros
  | (with_reducible apply ev_tV) <;> try and_intros
  | (with_reducible apply ev_bin) <;> try and_intros
  | (with_reducible apply ev_ix) <;> try and_intros
  | (with_reducible apply ev_fn) <;> try and_intros
  | (with_reducible apply ev_g1) <;> try and_intros
  | (with_reducible apply ev_g2) <;> try and_intros
  | (with_reducible apply ev_set) <;> try and_intros
  | (with_reducible apply ev_ret) <;> try and_intros
  | (with_reducible apply ev_own) <;> try and_intros
  | (with_reducible apply ev_drop) <;> try and_intros
  | (with_reducible apply ev_tNot) <;> try and_intros
  | (with_reducible apply ev_tAnd) <;> try and_intros
  | (with_reducible apply ev_tOr) <;> try and_intros
  | (with_reducible apply ev_and) <;> try and_intros
  | (with_reducible apply ev_or) <;> try and_intros
  | (with_reducible apply ev_not) <;> try and_intros
  | (with_reducible apply ev_neg) <;> try and_intros
  | (with_reducible apply ev_if) <;> try and_intros
  | (with_reducible apply ev_chain) <;> try and_intros
  | (with_reducible apply ev_tup) <;> try and_intros
  | (with_reducible apply ev_lst) <;> try and_intros
  | (with_reducible apply ev_isa) <;> try and_intros
  | (with_reducible apply ev_lcM) <;> try and_intros
  | (with_reducible apply ev_lc) <;> try and_intros
  | (with_reducible apply ev_iSeq) <;> try and_intros
  | (with_reducible apply ev_iRng) <;> try and_intros
  | (with_reducible apply ev_iEnum) <;> try and_intros
  | (with_reducible apply ev_iZip) <;> try and_intros
  | (with_reducible apply ev_sl) <;> try and_intros
  | (with_reducible apply ev_pAt) <;> try and_intros
  | (with_reducible apply ev_rev) <;> try and_intros
  | (with_reducible apply ev_dct1) <;> try and_intros
  | (with_reducible apply ev_lenSet) <;> try and_intros
  | (with_reducible apply ev_srtSet) <;> try and_intros
  | (with_reducible apply ev_rgL1) <;> try and_intros
  | (with_reducible apply ev_seqNever) <;> try and_intros
  | (with_reducible apply ev_never) <;> try and_intros
  | (with_reducible apply ev_seqIfSet) <;> try and_intros
  | (with_reducible apply ev_ifRet) <;> try and_intros
  | (with_reducible apply ev_ifElse) <;> try and_intros
  | (with_reducible apply ev_seq) <;> try and_intros
  | (with_reducible apply ev_frz) <;> try and_intros
  | (with_reducible apply ev_frzNo) <;> try and_intros
  | (with_reducible apply ev_par) <;> try and_intros
  | (with_reducible apply ev_par2) <;> try and_intros
  | (with_reducible apply ev_par3) <;> try and_intros
  | (with_reducible apply ev_asg) <;> try and_intros
  | (with_reducible apply ev_app) <;> try and_intros
  | (with_reducible apply ev_ext) <;> try and_intros
  | with_reducible exact addA_int
  | with_reducible exact subD_int
  | with_reducible exact eqD_int
  | with_reducible exact neD_int
  | with_reducible exact ltD_int
  | with_reducible exact leD_int
  | with_reducible exact gtD_int
  | with_reducible exact geD_int
  | with_reducible exact eqD_str
  | with_reducible exact neD_str
  | with_reducible exact lenD_tup'
  | with_reducible exact lenD_lst'
  | with_reducible exact lenD_tup
  | with_reducible exact lenD_lst
  | with_reducible exact tupD_lst
  | with_reducible exact tupD_tup
  | with_reducible exact listD_lst
  | with_reducible exact listD_tup
  | with_reducible exact intD_int
  | with_reducible exact intD_bl
  | with_reducible exact absD_int
  | with_reducible exact allD_p _ _
  | with_reducible exact anyD_p _ _
  | with_reducible exact revD_tup'
  | with_reducible exact revD_lst'
  | with_reducible exact slA_tup'
  | with_reducible exact slA_lst'
  | with_reducible exact sumD_f
  | with_reducible exact inD_ints
  | with_reducible exact inD_intsL
  | with_reducible exact ninD_ints
  | with_reducible exact ninD_intsL
  | with_reducible exact repI
  | (with_reducible apply modD_int) <;> omega
  | (with_reducible apply mulS_l) <;> omega
  | (with_reducible apply mulS_r) <;> omega
  | (with_reducible apply add_tup) <;> try and_intros
  | (with_reducible apply add_lst) <;> try and_intros
  | (with_reducible apply ix_tup) <;> try and_intros
  | (with_reducible apply ix_lst) <;> try and_intros
  | (with_reducible apply ix_tup0) <;> try and_intros
  | (with_reducible apply ix_lst0) <;> try and_intros
  | (with_reducible apply ix_tupL) <;> try and_intros
  | (with_reducible apply ix_lstL) <;> try and_intros
  | (with_reducible apply ev_isOp) <;> try and_intros
  | (with_reducible apply ev_isntOp) <;> try and_intros
  | (with_reducible apply eqD_gen) <;> try and_intros
  | (with_reducible apply neD_gen) <;> try and_intros
  | (show _ ≠ _; first | omega | (simp only [decide_eq_false_iff_not, decide_eq_true_eq] at *; omega) | (simp_all; done) | (simp_all; omega) | skip)
  | (refine fun x hx => ⟨_, rfl, ?_, fun hp => ?_⟩) <;> try and_intros
  | (refine fun x hx => ⟨_, rfl, ?_⟩) <;> try and_intros
  | (with_reducible refine fun (_ : _ = _) => ?_) <;> try and_intros
  | rfl
  | omega
  | (simp only [decide_eq_false_iff_not, decide_eq_true_eq] at *; omega)
  | (simp; done)
  | (simp; omega)
  | (simp_all; done)
  | (simp_all; omega))
def drF : Fx := callS .froz drawM
def cInt : Sx := (sRet (eAnd (eIsa PyData.isInt (eVar 0)) (eNot (eIsa PyData.isBool (eVar 0)))))
def fInt : Fx := callS .froz cInt
def cWithin : Sx := (sRet (eAnd (eFn fInt (lCons (eVar 0) lNil)) (eChain (pur leD) (pur leD) (eVar 1) (eVar 0) (eVar 2))))
def fWithin : Fx := callS .froz cWithin
def cNumber : Sx := (sRet (eAnd (eFn fInt (lCons (eVar 0) lNil)) (eBin (pur geD) (eVar 0) (eC (.int 0)))))
def fNumber : Fx := callS .froz cNumber
def cTuple : Sx := (sRet (eAnd (eIsa PyData.isTuple (eVar 0)) (eChain (pur leD) (pur leD) (eVar 1) (eFn (g1 fun d => lift (lenD d)) (lCons (eVar 0) lNil)) (eVar 2))))
def fTuple : Fx := callS .froz cTuple
def cLot : Sx := (sSeq (sIf (tOr' (tNot' (tV (eIsa PyData.isTuple (eVar 0)))) (tNot' (tV (eFn (g1 fun d => lift (allD d)) (lCons (eLc [2, 3] (iSeq (eVar 0)) (gNm 3) tYesS (eFn fWithin (lCons (eVar 3) (lCons (eC (.int 0)) (lCons (eBin (pur subD) (eVar 1) (eC (.int 1))) lNil))))) lNil))))) (sRet (eC (.bl false))) sNil) (sRet (eFn (g1 fun d => lift (allD d)) (lCons (eLc [2, 3, 4] (iZipS (eVar 0) (eSl slA (eVar 0) (pAt (eC (.int 1))) pNo)) (gTp (gCs (gNm 3) (gCs (gNm 4) gNl))) tYesS (eBin (pur ltD) (eVar 3) (eVar 4))) lNil))))
def fLot : Fx := callS .froz cLot
def cHand : Sx := (sSeq (sSet 1 (eLc [2, 3] (iSeq (eSl slA (eVar 0) pNo (pAt (eC (.int 63))))) (gNm 3) tYesS (eFn (g1 fun d => lift (absD d)) (lCons (eFn (g1 fun d => lift (intD d)) (lCons (eVar 3) lNil)) lNil)))) (sRet (eLst (lCons (eVar 1) (lCons (eC (.int 0)) (lCons (eC (.int 0)) (lCons (eBin (pur addA) (eC (.int 2161)) (eBin (pur mulA) (eC (.int 197)) (eFn (g1 fun d => lift (lenD d)) (lCons (eVar 1) lNil)))) (lCons (eC (.int 0)) lNil))))))))
def fHand : Fx := callS .fresh cHand
def cSome : Sx := (sRet (eBin ixD (eVar 1) (eFn drF (lCons (eVar 0) (lCons (eFn (g1 fun d => lift (lenD d)) (lCons (eVar 1) lNil)) lNil)))))
def fSome : Fx := callS .froz cSome
def cDeep : Sx := (sSeq (sSet 1 (eTup (lCons (eC (.str "?!")) lNil))) (sSeq (sFor (iRng1S (eFn drF (lCons (eVar 0) (lCons (eC (.int 30)) lNil)))) (gNm 2) (sSet 1 (eFn fSome (lCons (eVar 0) (lCons (eLst (lCons (eTup (lCons (eVar 1) lNil)) (lCons (eLst (lCons (eVar 1) lNil)) (lCons (eDct1 (eC (.int 0)) (eVar 1)) lNil)))) lNil))))) (sRet (eVar 1))))
def fDeep : Fx := callS .froz cDeep
def cFlag : Sx := (sRet (eAnd (eIsa PyData.isBool (eVar 0)) (eBin (pur eqD) (eVar 0) (eVar 1))))
def fFlag : Fx := callS .froz cFlag
/-! ### small judges -/
theorem int_eq {d : D} {st : Store} (h : dat 60 d = true) : fInt [d] st = .ok (.bl d.isInt) st := by
  apply ev_to
  · apply ev_call (s := cInt)
    unfold cInt
    and_intros
  · have := isa_T h
    rw [← this.1]
theorem within_eq {d : D} {lo hi : Int} {st : Store} (h : dat 60 d = true) : fWithin [d, .int lo, .int hi] st = .ok (.bl (inR lo hi d)) st := by
  have e := int_eq (st := st) h
  cases d with
  | int i =>
    apply ev_to
    · apply ev_call (s := cWithin)
      unfold cWithin
      and_intros
    · simp [inR, D.isInt]
  | _ =>
    refine ev_call (s := cWithin) ?_
    unfold cWithin
    exact ev_ret (eAnd_f (ev_fn (ev_cons (ev_var rfl) lNil_eq) e))
def tupN (a b : Int) : D → Bool
  | .tup xs => decide (a ≤ xs.length) && decide ((xs.length : Int) ≤ b)
  | _ => false
theorem tuple_eq {d : D} {a b : Int} {st : Store} (h : dat 60 d = true) : fTuple [d, .int a, .int b] st = .ok (.bl (tupN a b d)) st := by
  have e := (isa_T h).2.1
  cases d with
  | tup xs =>
    apply ev_to
    · apply ev_call (s := cTuple)
      unfold cTuple
      and_intros
    · simp [tupN, D.isTup]
  | _ =>
    refine ev_call (s := cTuple) ?_
    unfold cTuple
    exact ev_ret (eAnd_f (ev_isa (ev_var rfl) h e))
theorem number_eq {d : D} {st : Store} (h : dat 60 d = true) : fNumber [d] st = .ok (.bl (match d with | .int i => decide (0 ≤ i) | _ => false)) st := by
  have e := int_eq (st := st) h
  cases d with
  | int i =>
    apply ev_to
    · apply ev_call (s := cNumber)
      unfold cNumber
      and_intros
    · simp [D.isInt]
  | _ =>
    refine ev_call (s := cNumber) ?_
    unfold cNumber
    exact ev_ret (eAnd_f (ev_fn (ev_cons (ev_var rfl) lNil_eq) e))
/-- strictly up -/
def upI : List Int → Bool
  | a :: b :: r => decide (a < b) && upI (b :: r)
  | _ => true
theorem zip_up : ∀ ns : List Int, ((ns.zip (ns.drop 1)).all fun p => decide (p.1 < p.2)) = upI ns
  | [] => rfl
  | [a] => rfl
  | a :: b :: r => by
    have := zip_up (b :: r)
    simp only [List.drop_succ_cons, List.drop_zero] at this ⊢
    simp only [List.zip_cons_cons, List.all_cons, upI, this]
theorem upI_pw : ∀ ns : List Int, upI ns = true ↔ ns.Pairwise (· < ·)
  | [] => by simp [upI]
  | [a] => by simp [upI]
  | a :: b :: r => by
    have ih := upI_pw (b :: r)
    simp only [upI, Bool.and_eq_true, decide_eq_true_eq, ih, List.pairwise_cons]
    constructor
    · rintro ⟨h1, h2, h3⟩
      refine ⟨fun y hy => ?_, h2, h3⟩
      rcases List.mem_cons.mp hy with rfl | hy
      · exact h1
      · have := h2 y hy; omega
    · rintro ⟨h1, h2, h3⟩
      exact ⟨h1 b List.mem_cons_self, h2, h3⟩
/-- an ascending tuple of numbers below many -/
def lotB (many : Int) : D → Bool
  | .tup xs => xs.all (inR 0 (many - 1)) && (match intsD xs with | some ns => upI ns | none => false)
  | _ => false
theorem dat_all' {xs : List D} (h : dat 60 (.tup xs) = true) : ∀ x ∈ xs, dat 60 x = true := fun x hx => by
  rw [dat_tup60, List.all_eq_true] at h
  exact dat_up 59 x (h x hx)
theorem lot_eq {d : D} {many : Int} {st : Store} (h : dat 60 d = true) (hl : ∀ xs, d = .tup xs → xs.length ≤ 100000) : fLot [d, .int many] st = .ok (.bl (lotB many d)) st := by
  have e := (isa_T h).2.1
  cases d with
  | tup xs =>
    have hx := dat_all' h
    have hz := hl xs rfl
    have w : ∀ x ∈ xs, fWithin [x, .int 0, .int (many - 1)] st = .ok (.bl (inR 0 (many - 1) x)) st := fun x hm => within_eq (hx x hm)
    have a1 : eLc [2, 3] (iSeq (eVar 0)) (gNm 3) tYesS (eFn fWithin (lCons (eVar 3) (lCons (eC (.int 0)) (lCons (eBin (pur subD) (eVar 1) (eC (.int 1))) lNil)))) (env0 [.tup xs, .int many]) st = .ok (.lst (xs.map fun x => .bl (inR 0 (many - 1) x))) st :=
      ev_lcM xs id _ (ev_iSeq (ev_var rfl) (by simp)) (fun x hm => ⟨_, rfl, ev_fn (by and_intros) (w x hm)⟩) hz
    by_cases q : xs.all (inR 0 (many - 1)) = true
    · obtain ⟨ns, rfl, hns⟩ := inR_all q
      have a2 : eLc [2, 3, 4] (iZipS (eVar 0) (eSl slA (eVar 0) (pAt (eC (.int 1))) pNo)) (gTp (gCs (gNm 3) (gCs (gNm 4) gNl))) tYesS (eBin (pur ltD) (eVar 3) (eVar 4)) (env0 [.tup (ns.map .int), .int many]) st = .ok (.lst ((ns.zip (ns.drop 1)).map fun p => .bl (decide (p.1 < p.2)))) st := by
        refine ev_lcM (ns.zip (ns.drop 1)) (fun p => .tup [.int p.1, .int p.2]) _ ?_ (fun x hm => ⟨_, rfl, by and_intros⟩) ?_
        · refine ev_iZip (x := .tup (ns.map .int)) (y := .tup ((ns.drop 1).map .int)) (xs := ns) (ys := ns.drop 1) (ev_var rfl) ?_ rfl rfl
          refine ev_sl (x := .tup (ns.map .int)) (a := some 1) (c := none) (by and_intros) (by and_intros) ev_pNo ?_
          show some (D.tup (cut (ns.map .int) (some 1) none)) = _
          rw [cut1, List.map_drop]
        · rw [List.length_zip]
          rw [List.length_map] at hz
          omega
      refine callS_rt ?_
      unfold cLot
      refine Eq.trans (ev_ifNo (b := false) (st1 := st) (r := .ok (.rt (.bl (upI ns))) st) ?_ rfl (ev_ret (ev_fn (ev_cons a2 lNil_eq) (ev_g1 ?_)))) (by simp [lotB, all_inR hns])
      · refine Eq.trans (tOr_no (st1 := st) (ev_tNot (b := true) (ev_tV (ev_isa (ev_var rfl) h e)))) (ev_tNot (b := true) (ev_tV (ev_fn (ev_cons a1 lNil_eq) (ev_g1 ?_))))
        rw [allD_p, q]
      · rw [allD_p, zip_up]
    · have q' : xs.all (inR 0 (many - 1)) = false := by simpa using q
      refine callS_rt ?_
      unfold cLot
      refine Eq.trans (sSeq_rt (d := .bl false) (st1 := st) ?_) (by simp [lotB, q'])
      rw [sIf_eq (c := true) (st1 := st)]
      · rfl
      · refine Eq.trans (tOr_no (st1 := st) (ev_tNot (b := true) (ev_tV (ev_isa (ev_var rfl) h e)))) (ev_tNot (b := false) (ev_tV (ev_fn (ev_cons a1 lNil_eq) (ev_g1 ?_))))
        rw [allD_p, q']
  | _ =>
    refine callS_rt ?_
    unfold cLot
    refine sSeq_rt ?_
    rw [sIf_eq (c := true) (st1 := st)]
    · rfl
    · exact tOr_yes (ev_tNot (b := false) (ev_tV (ev_isa (ev_var rfl) h e)))
/-! ### the hand -/
def drN (h : List D) (k : Int) : Nat := match drF [.obj 0, .int k] [h] with
  | .ok (.int r) _ => r.toNat
  | _ => 0
def drH (h : List D) (k : Int) : List D := match drF [.obj 0, .int k] [h] with
  | .ok _ [h'] => h'
  | _ => h
section
variable {h : List D} {k : Int}
theorem dr_all (hh : Hok h) (h1 : 1 ≤ k) (h2 : k < 1073741824) : drF [.obj 0, .int k] [h] = .ok (.int (drN h k : Nat)) [drH h k] ∧ (drN h k : Int) < k ∧ Hok (drH h k) := by
  obtain ⟨r, h', e, r0, r1, hk⟩ := draw_ok hh h1 h2
  have e' : drF [.obj 0, .int k] [h] = .ok (.int r) [h'] := e
  unfold drN drH
  rw [e']
  refine ⟨?_, ?_, hk⟩
  · show Res.ok (D.int r) [h'] = .ok (.int (r.toNat : Nat)) [h']
    rw [Int.toNat_of_nonneg r0]
  · show ((r.toNat : Nat) : Int) < k
    omega
theorem dr_eq (hh : Hok h) (h1 : 1 ≤ k) (h2 : k < 1073741824) : drF [.obj 0, .int k] [h] = .ok (.int (drN h k : Nat)) [drH h k] := (dr_all hh h1 h2).1
theorem drN_lt (hh : Hok h) (h1 : 1 ≤ k) (h2 : k < 1073741824) : (drN h k : Int) < k := (dr_all hh h1 h2).2.1
theorem drH_ok (hh : Hok h) (h1 : 1 ≤ k) (h2 : k < 1073741824) : Hok (drH h k) := (dr_all hh h1 h2).2.2
/-- one of the things -/
def smN (h : List D) (n : Nat) : Nat := drN h n
theorem some_eq {xs : List D} (hh : Hok h) (h1 : 1 ≤ xs.length) (h2 : xs.length ≤ 1000000) : fSome [.obj 0, .lst xs] [h] = .ok (xs.getD (drN h xs.length) .non) [drH h xs.length] := by
  have hd := dr_eq hh (k := (xs.length : Int)) (by omega) (by omega)
  have hlt := drN_lt hh (k := (xs.length : Int)) (by omega) (by omega)
  have hlt' : drN h xs.length < xs.length := by omega
  refine callS_rt (sRet_eq ?_)
  refine ev_ix (x := .lst xs) (y := .int (drN h xs.length : Nat)) (st1 := [h]) (ev_var rfl) (ev_fn (ev_cons (ev_var rfl) (ev_cons (ev_fn (ev_cons (ev_var rfl) lNil_eq) (ev_g1 lenD_lst)) lNil_eq)) hd) ?_
  have := ix_lst (xs := xs) (f := id) (i := drN h xs.length) (a := xs.getD (drN h xs.length) .non) (st := [drH h xs.length]) (by simp [List.getD, hlt'])
  simpa using this
theorem some_eqT {xs : List D} (hh : Hok h) (h1 : 1 ≤ xs.length) (h2 : xs.length ≤ 1000000) : fSome [.obj 0, .tup xs] [h] = .ok (xs.getD (drN h xs.length) .non) [drH h xs.length] := by
  have hd := dr_eq hh (k := (xs.length : Int)) (by omega) (by omega)
  have hlt := drN_lt hh (k := (xs.length : Int)) (by omega) (by omega)
  have hlt' : drN h xs.length < xs.length := by omega
  refine callS_rt (sRet_eq ?_)
  refine ev_ix (x := .tup xs) (y := .int (drN h xs.length : Nat)) (st1 := [h]) (ev_var rfl) (ev_fn (ev_cons (ev_var rfl) (ev_cons (ev_fn (ev_cons (ev_var rfl) lNil_eq) (ev_g1 lenD_tup)) lNil_eq)) hd) ?_
  have := ix_tup (xs := xs) (f := id) (i := drN h xs.length) (a := xs.getD (drN h xs.length) .non) (st := [drH h xs.length]) (by simp [List.getD, hlt'])
  simpa using this
theorem some_eqM {α : Type} [Inhabited α] {xs : List α} {f : α → D} (hh : Hok h) (h1 : 1 ≤ xs.length) (h2 : xs.length ≤ 1000000) : fSome [.obj 0, .lst (xs.map f)] [h] = .ok (f (xs.getD (drN h xs.length) default)) [drH h xs.length] := by
  have hlt := drN_lt hh (k := (xs.length : Int)) (by omega) (by omega)
  have hlt' : drN h xs.length < xs.length := by omega
  rw [some_eq hh (by simpa using h1) (by simpa using h2)]
  simp [List.getD, hlt']
theorem getD_mem {α : Type} {xs : List α} {i : Nat} {d : α} (h : i < xs.length) : xs.getD i d ∈ xs := by
  simp [List.getD, h]
end
theorem some_mem {α : Type} [Inhabited α] {h : List D} {xs : List α} (hh : Hok h) (h1 : 1 ≤ xs.length) (h2 : xs.length ≤ 1000000) : xs.getD (drN h xs.length) default ∈ xs := by
  have hlt := drN_lt hh (k := (xs.length : Int)) (by omega) (by omega)
  exact getD_mem (by omega)
theorem some_memD {h : List D} {xs : List D} (hh : Hok h) (h1 : 1 ≤ xs.length) (h2 : xs.length ≤ 1000000) : xs.getD (drN h xs.length) .non ∈ xs := by
  have hlt := drN_lt hh (k := (xs.length : Int)) (by omega) (by omega)
  exact getD_mem (by omega)
theorem hand_ok {ns : List Int} (hl : ns.length ≤ 63) {st : Store} : ∃ h, fHand [scrD ns] st = .ok (.lst h) st ∧ Hok h := by
  let cs : List Int := ns.map fun i => if i < 0 then -i else i
  refine ⟨hnd cs 0 0 (2161 + 197 * (cs.length : Nat)) 0, ?_, ⟨cs, 0, 0, _, 0, rfl, fun x hx => ?_, by omega, by omega, by omega, by omega, by simpa [cs] using hl⟩⟩
  · refine callS_frt ?_
    unfold cHand
    have a1 : eLc [2, 3] (iSeq (eSl slA (eVar 0) pNo (pAt (eC (.int 63))))) (gNm 3) tYesS (eFn (g1 fun d => lift (absD d)) (lCons (eFn (g1 fun d => lift (intD d)) (lCons (eVar 3) lNil)) lNil)) (env0 [scrD ns]) st = .ok (lN cs) st := by
      refine Eq.trans (ev_lcM (st1 := st) ns .int (fun i => .int (if i < 0 then -i else i)) ?_ (fun x hm => ⟨_, rfl, by and_intros⟩) (by omega)) (by simp [cs])
      refine ev_iSeq (x := .lst (ns.map .int)) (ev_sl (x := scrD ns) (ev_var rfl) ev_pNo (ev_pAt eC_eq) ?_) rfl
      show some (D.lst (cut (ns.map .int) none (some ((63 : Nat) : Int)))) = _
      rw [cut_to, List.take_of_length_le (by simpa using hl)]
    refine ev_seq (ev_set a1) (ev_ret ?_)
    have e : hnd cs 0 0 (2161 + 197 * (cs.length : Nat)) 0 = [lN cs, .int 0, .int 0, .int (2161 + 197 * (cs.length : Nat)), .int 0] := rfl
    rw [e]
    apply ev_to
    · and_intros
    · rfl
  · obtain ⟨i, _, rfl⟩ := List.mem_map.mp hx
    show 0 ≤ if i < 0 then -i else i
    split <;> omega
/-! ### data that repr tells apart -/
theorem wrd_tup {xs : List D} : wrd (.tup xs) = xs.all wrd := by simp [wrd]
theorem wrd_lst {xs : List D} : wrd (.lst xs) = xs.all wrd := by simp [wrd]
theorem wrd_int {i : Int} : wrd (.int i) = true := by simp [wrd]
theorem wrd_dct1 {k d : D} : wrd (.dct [(k, d)]) = (wrd k && wrd d) := by simp [wrd, wrdK]
theorem wrd_str {s : Str} : wrd (.str s) = (decide ((reprText s).cps.toList = 39 :: (s.cps.toList ++ [39])) && !s.cps.toList.contains 39) := by simp only [wrd]
/-- small pieces: depth k, weight n -/
structure Rw (k n : Nat) (d : D) : Prop where
  w : wrd d = true
  t : dat k d = true
  s : smI d = true
  l : wt d ≤ n
theorem Rw.rok {k n : Nat} {d : D} (h : Rw k n d) (hk : k ≤ 60 := by omega) (hn : n ≤ 100000 := by omega) : Rok d := ⟨h.w, dat_le h.t hk, h.s, Nat.le_trans h.l (toLine hn)⟩
theorem Rw.up {k n k' n' : Nat} {d : D} (h : Rw k n d) (hk : k ≤ k' := by omega) (hn : n ≤ n' := by omega) : Rw k' n' d := ⟨h.w, dat_le h.t hk, h.s, Nat.le_trans h.l hn⟩
theorem rw_int {i : Int} (h : -1000000000 < i ∧ i < 1000000000) : Rw 0 20 (.int i) := by
  refine ⟨wrd_int, by simp, ?_, by simp only [wt]; omega⟩
  have e : (2 : Int) ^ 62 = 4611686018427387904 := by decide
  simp only [smI, decide_eq_true_eq, e]
  omega
theorem rw_non : Rw 0 20 .non := ⟨by simp [wrd], by simp, by simp, by simp only [wt]; omega⟩
theorem rw_bl {b : Bool} : Rw 0 20 (.bl b) := ⟨by cases b <;> simp [wrd], by simp, by simp, by simp only [wt]; omega⟩
theorem rw_str {s : Str} (h : wrd (.str s) = true) (hl : s.length ≤ 18) : Rw 0 20 (.str s) := ⟨h, by simp, by simp, by simp only [wt]; omega⟩
theorem wtL_sum {k n : Nat} : ∀ xs : List D, (∀ x ∈ xs, Rw k n x) → wtL xs ≤ (n + 2) * xs.length := fun xs h => wtL_le xs fun x hx => (h x hx).l
theorem rw_tup {k n : Nat} {xs : List D} (h : ∀ x ∈ xs, Rw k n x) : Rw (k + 1) ((n + 2) * xs.length + 3) (.tup xs) := by
  refine ⟨by rw [wrd_tup, List.all_eq_true]; exact fun x hx => (h x hx).w, by rw [dat_tup, List.all_eq_true]; exact fun x hx => (h x hx).t, by simp only [smI, smIL_all, List.all_eq_true]; exact fun x hx => (h x hx).s, ?_⟩
  have := wtL_sum xs h
  simp only [wt]
  omega
theorem rw_lst {k n : Nat} {xs : List D} (h : ∀ x ∈ xs, Rw k n x) : Rw (k + 1) ((n + 2) * xs.length + 3) (.lst xs) := by
  refine ⟨by rw [wrd_lst, List.all_eq_true]; exact fun x hx => (h x hx).w, by rw [dat_lst, List.all_eq_true]; exact fun x hx => (h x hx).t, by simp only [smI, smIL_all, List.all_eq_true]; exact fun x hx => (h x hx).s, ?_⟩
  have := wtL_sum xs h
  simp only [wt]
  omega
theorem rw_tN {xs : List Int} (h : ∀ x ∈ xs, -1000000000 < x ∧ x < 1000000000) : Rw 1 (22 * xs.length + 3) (tN xs) := by
  have := rw_tup (k := 0) (n := 20) (xs := xs.map .int) fun x hx => by
    obtain ⟨i, hi, rfl⟩ := List.mem_map.mp hx
    exact rw_int (h i hi)
  simpa using this
theorem rw_lN {xs : List Int} (h : ∀ x ∈ xs, -1000000000 < x ∧ x < 1000000000) : Rw 1 (22 * xs.length + 3) (lN xs) := by
  have := rw_lst (k := 0) (n := 20) (xs := xs.map .int) fun x hx => by
    obtain ⟨i, hi, rfl⟩ := List.mem_map.mp hx
    exact rw_int (h i hi)
  simpa using this
/-- a deep thing after k turns -/
structure Dp (k : Nat) (d : D) : Prop where
  r : Rw (k + 1) (100 * (k + 1)) d
  f : d = .tup [.str "?!"] ∨ ((∀ s, d ≠ .str s) ∧ ∀ xs, d = .tup xs → ∃ x, xs = [x] ∧ ∀ s, x ≠ .str s)
theorem Dp.no {k : Nat} {d : D} (h : Dp k d) : ∀ s, d ≠ .str s := by
  rcases h.f with z | z
  · rw [z]; simp
  · exact z.1
theorem word_qm : wrd (.str "?!") = true := by decide +kernel
theorem dp_zero : Dp 0 (.tup [.str "?!"]) := ⟨(rw_tup (k := 0) (n := 20) (xs := [.str "?!"]) (by simp only [List.mem_singleton]; rintro x rfl; exact rw_str word_qm (by decide +kernel))).up (Nat.le_refl _) (by simp), .inl rfl⟩
theorem dp_tup {k : Nat} {d : D} (h : Dp k d) : Dp (k + 1) (.tup [d]) := ⟨(rw_tup (xs := [d]) (by simp only [List.mem_singleton]; rintro x rfl; exact h.r)).up (Nat.le_refl _) (by simp; omega), .inr ⟨by simp, fun xs e => ⟨d, by simpa using e.symm, h.no⟩⟩⟩
theorem dp_lst {k : Nat} {d : D} (h : Dp k d) : Dp (k + 1) (.lst [d]) := ⟨(rw_lst (xs := [d]) (by simp only [List.mem_singleton]; rintro x rfl; exact h.r)).up (Nat.le_refl _) (by simp; omega), .inr ⟨by simp, fun xs e => by simp at e⟩⟩
theorem dp_dct {k : Nat} {d : D} (h : Dp k d) : Dp (k + 1) (.dct [(.int 0, d)]) := ⟨⟨by rw [wrd_dct1, h.r.w, wrd_int]; rfl, by simp [dat, datK, h.r.t], by simp [smI, smIK, h.r.s], by have := h.r.l; simp only [wt, wtK]; omega⟩, .inr ⟨by simp, fun xs e => by simp at e⟩⟩
/-! ### loops -/
section
variable {α σ : Type} {it : Lx} {g : Gx} {b : Sx} {env : En} {st st1 : Store} {j : Nat}
theorem forS_acc {xs : List α} {enc : α → D} {f : σ → α → σ} {P : σ → En → Store → Prop} : ∀ (s0 : σ) (env : En) (st1 : Store), P s0 env st1 →
    (∀ x ∈ xs, ∀ s e st2, P s e st2 → ∃ e1 e2 st3, g (enc x) e = some e1 ∧ b e1 st2 = .ok (.nx e2) st3 ∧ P (f s x) e2 st3) → ∃ e' st', forS g b (xs.map enc) env st1 = .ok (.nx e') st' ∧ P (xs.foldl f s0) e' st' := by
  induction xs with
  | nil => exact fun s0 env st1 h _ => ⟨env, st1, rfl, h⟩
  | cons x xs ih =>
    intro s0 env st1 h step
    obtain ⟨e1, e2, st3, h1, h2, h3⟩ := step x List.mem_cons_self s0 env st1 h
    obtain ⟨e', st', h4, h5⟩ := ih (f s0 x) e2 st3 h3 fun y hy => step y (List.mem_cons_of_mem _ hy)
    refine ⟨e', st', ?_, h5⟩
    rw [List.map_cons]
    unfold forS
    simp only [h1]
    rw [bnd_eq h2]
    exact h4
/-- a loop folds -/
theorem for_acc (xs : List α) (enc : α → D) (s0 : σ) (f : σ → α → σ) (P : σ → En → Store → Prop) (hi : it env st = .ok (xs.map enc) st1) (h0 : P s0 env st1)
    (step : ∀ x ∈ xs, ∀ s e st2, P s e st2 → ∃ e1 e2 st3, g (enc x) e = some e1 ∧ b e1 st2 = .ok (.nx e2) st3 ∧ P (f s x) e2 st3) : ∃ e' st', sFor it g b env st = .ok (.nx e') st' ∧ P (xs.foldl f s0) e' st' := by
  obtain ⟨e', st', h1, h2⟩ := forS_acc (g := g) (b := b) s0 env st1 h0 step
  refine ⟨e', st', ?_, h2⟩
  unfold sFor
  rw [bnd_eq hi]
  exact h1
/-- a loop that changes nothing but its own name -/
theorem for_still (ds : List D) (hi : it env st = .ok ds st1) (step : ∀ d ∈ ds, ∀ e : En, (∀ i, i ≠ j → e i = env i) → b (e.put j false d) st1 = .ok (.nx (e.put j false d)) st1) : ∃ e', sFor it (gNm j) b env st = .ok (.nx e') st1 ∧ ∀ i, i ≠ j → e' i = env i := by
  obtain ⟨e', s', h1, h2, h3⟩ := for_acc (σ := Unit) (g := gNm j) (b := b) ds id () (fun _ _ => ()) (fun _ e s => s = st1 ∧ ∀ i, i ≠ j → e i = env i) (by simpa using hi) ⟨rfl, fun _ _ => rfl⟩ (by
    rintro d hd _ e s2 ⟨rfl, he⟩
    refine ⟨_, _, _, rfl, step d hd e he, rfl, fun i hn => ?_⟩
    exact (if_neg hn).trans (he i hn))
  subst h2
  exact ⟨e', h1, h3⟩
end
theorem deep_ok {h : List D} (hh : Hok h) : ∃ d k h', fDeep [.obj 0] [h] = .ok d [h'] ∧ k < 30 ∧ Dp k d ∧ Hok h' := by
  have d0 := dr_eq hh (k := 30) (by omega) (by omega)
  have dl := drN_lt hh (k := 30) (by omega) (by omega)
  have k0 := drH_ok hh (k := 30) (by omega) (by omega)
  generalize drN h 30 = t at d0 dl
  generalize drH h 30 = h2 at d0 k0
  obtain ⟨e', s', f1, d, h', rfl, f2, ⟨g0, g1⟩, f4⟩ := sFor_run (st := [h]) (st1 := [h2]) (env := (env0 [.obj 0]).put 1 false (.tup [.str "?!"])) (it := iRng1S (eFn drF (lCons (eVar 0) (lCons (eC (.int 30)) lNil)))) (g := gNm 2)
    (b := sSet 1 (eFn fSome (lCons (eVar 0) (lCons (eLst (lCons (eTup (lCons (eVar 1) lNil)) (lCons (eLst (lCons (eVar 1) lNil)) (lCons (eDct1 (eC (.int 0)) (eVar 1)) lNil)))) lNil))))
    (I := fun i e s => ∃ d h', s = [h'] ∧ Hok h' ∧ (e 0 = some (false, .obj 0) ∧ e 1 = some (false, d)) ∧ Dp i d) ((List.range t).map fun i => .int (i : Nat))
    (ev_iRng (ev_fn (by and_intros) d0) (by omega)) ⟨_, h2, rfl, k0, ⟨by and_intros, put_eq⟩, dp_zero⟩ (by
      rintro i x e s hd ⟨d, h', rfl, hk, ⟨g0, g1⟩, dp⟩
      have c1 := some_eq hk (xs := [.tup [d], .lst [d], .dct [(.int 0, d)]]) (by simp) (by simp)
      have c2 := some_memD hk (xs := [.tup [d], .lst [d], .dct [(.int 0, d)]]) (by simp) (by simp)
      have c3 := drH_ok hk (k := (([.tup [d], .lst [d], .dct [(.int 0, d)]] : List D).length : Int)) (by simp) (by simp)
      generalize ([.tup [d], .lst [d], .dct [(.int 0, d)]] : List D).getD (drN h' ([.tup [d], .lst [d], .dct [(.int 0, d)]] : List D).length) .non = y at c1 c2
      refine ⟨_, _, _, rfl, ev_set (ev_fn (by and_intros) c1), y, _, rfl, c3, ⟨by and_intros, put_eq⟩, ?_⟩
      simp only [List.mem_cons, List.not_mem_nil, or_false] at c2
      rcases c2 with rfl | rfl | rfl
      · exact dp_tup dp
      · exact dp_lst dp
      · exact dp_dct dp)
  rw [List.length_map, List.length_range] at f4
  refine ⟨d, t, h', ?_, by omega, f4, f2⟩
  refine callS_rt ?_
  unfold cDeep
  refine ev_seq (ev_set (ev_tup (ev_cons eC_eq lNil_eq))) (ev_seq f1 (ev_ret (ev_var g1)))
theorem flag_eq {a b : Bool} {st : Store} : fFlag [.bl a, .bl b] st = .ok (.bl (decide (a = b))) st := by
  apply ev_to
  · apply ev_call (s := cFlag)
    unfold cFlag
    refine ev_ret (ev_and (b := true) ?_ (c := decide (a = b)) ?_)
    · and_intros
    · intro _
      refine ev_bin (ev_var rfl) (ev_var rfl) ?_
      rw [eqD_gen (by simp) (by simp), eqv_bl]
  · rfl
/-! ### reprs compared -/
theorem rep_no {a b : Ex} {env : En} {st st1 st2 : Store} {x : D} (ha : a env st = .ok x st1) (hb : b env st1 = .ok x st2) (h : Rok x) : tV (eBin (pur neD) (eFn (g1 fun d => lift (repD d)) (lCons a lNil)) (eFn (g1 fun d => lift (repD d)) (lCons b lNil))) env st = .ok false st2 :=
  ev_tV (ev_bin (ev_fn (ev_cons ha lNil_eq) (ev_g1 (rep_ok h))) (ev_fn (ev_cons hb lNil_eq) (ev_g1 (rep_ok h))) (by simp))
theorem rep_yes {a b : Ex} {env : En} {st st1 st2 : Store} {x : D} (ha : a env st = .ok x st1) (hb : b env st1 = .ok x st2) (h : Rok x) : eBin (pur eqD) (eFn (g1 fun d => lift (repD d)) (lCons a lNil)) (eFn (g1 fun d => lift (repD d)) (lCons b lNil)) env st = .ok (.bl true) st2 :=
  ev_bin (ev_fn (ev_cons ha lNil_eq) (ev_g1 (rep_ok h))) (ev_fn (ev_cons hb lNil_eq) (ev_g1 (rep_ok h))) (by simp)
theorem ne_same {a b : Ex} {env : En} {st st1 st2 : Store} {x : D} (ha : a env st = .ok x st1) (hb : b env st1 = .ok x st2) (h : shp 60 x = true) : tV (eBin (pur neD) a b) env st = .ok false st2 := by
  refine ev_tV (ev_bin ha hb ?_)
  rw [neD_gen h h, show D.eqv x x = true from eqv_self 60 x h]
  rfl
theorem eq_same {a b : Ex} {env : En} {st st1 st2 : Store} {x : D} (ha : a env st = .ok x st1) (hb : b env st1 = .ok x st2) (h : shp 60 x = true) : eBin (pur eqD) a b env st = .ok (.bl true) st2 := by
  refine ev_bin ha hb ?_
  rw [eqD_gen h h, show D.eqv x x = true from eqv_self 60 x h]
/-- the law's last row: all turns are right -/
theorem all_turns {F : Fx} {e : En} {h0 : List D} {vs : List Nat} {n i j : Nat} (hn : n ≤ 1000) (hF : ∀ h, Hok h → ∃ h', F [.obj 0] [h] = .ok (.bl true) [h'] ∧ Hok h') (hh : Hok h0) (ei : e i = some (false, .obj 0)) (hi : vs.contains i = false) (hij : (i == j) = false) :
    ∃ h', eFn (g1 fun d => lift (allD d)) (lCons (eLc vs (iRng1S (eC (.int (n : Int)))) (gNm j) tYesS (eFn F (lCons (eVar i) lNil))) lNil) e [h0] = .ok (.bl true) [h'] ∧ Hok h' := by
  obtain ⟨ys, s', c, h', rfl, hk, hy⟩ := eLc_run (st := [h0]) (st1 := [h0]) (vs := vs) (it := iRng1S (eC (.int (n : Int)))) (g := gNm j) (t := tYesS) (m := eFn F (lCons (eVar i) lNil)) (env := e)
    (I := fun k ys s => ∃ h', s = [h'] ∧ Hok h' ∧ ys = (List.range k).map fun _ => .bl true) ((List.range n).map fun i => .int (i : Nat))
    (ev_iRng eC_eq (by omega)) (by simp; omega) ⟨h0, rfl, hh, rfl⟩ (by
      rintro k d a s hd ⟨h', rfl, hk, rfl⟩
      obtain ⟨h2, c, k2⟩ := hF h' hk
      exact ⟨_, true, [h'], rfl, rfl, fun _ => ⟨.bl true, [h2], ev_fn (ev_cons (ev_var (put_no (clr_no ei hi) hij)) lNil_eq) c, h2, rfl, k2, by rw [List.range_succ, List.map_append]; rfl⟩, fun z => by cases z⟩)
  refine ⟨h', ev_fn (ev_cons c lNil_eq) (ev_g1 ?_), hk⟩
  rw [hy, allD_p _ (fun _ => true)]
  simp
end Sm


set_option Elab.async false
set_option linter.all false
set_option maxRecDepth 100000
set_option maxHeartbeats 2000000
/-! Cm2: the hand of the laws k75 to k87. -/
namespace Sm
open PySem PySem.Spec L2
local macro_rules | `(tactic| and_intros) => `(tactic| first
  | (show _ = _; with_reducible assumption)
  | with_reducible exact eC_eq
  | with_reducible exact lNil_eq
  | with_reducible exact ev_pNo
  | with_reducible exact put_eq
  | (with_reducible refine put_no ?_ (by rfl)) <;> and_intros
  | (with_reducible refine clr_no ?_ (by rfl)) <;> and_intros
  | (with_reducible apply ev_var) <;> try and_intros
  | (with_reducible apply ev_varB) <;> try and_intros
  | (with_reducible apply ev_cons) <;> try and_intros
  | (with_reducible apply ev_tV) <;> try and_intros
  | (with_reducible apply ev_bin) <;> try and_intros
  | (with_reducible apply ev_ix) <;> try and_intros
  | (with_reducible apply ev_fn) <;> try and_intros
  | (with_reducible apply ev_g1) <;> try and_intros
  | (with_reducible apply ev_g2) <;> try and_intros
  | (with_reducible apply ev_set) <;> try and_intros
  | (with_reducible apply ev_ret) <;> try and_intros
  | (with_reducible apply ev_own) <;> try and_intros
  | (with_reducible apply ev_drop) <;> try and_intros
  | (with_reducible apply ev_tNot) <;> try and_intros
  | (with_reducible apply ev_tAnd) <;> try and_intros
  | (with_reducible apply ev_tOr) <;> try and_intros
  | (with_reducible apply ev_and) <;> try and_intros
  | (with_reducible apply ev_or) <;> try and_intros
  | (with_reducible apply ev_not) <;> try and_intros
  | (with_reducible apply ev_neg) <;> try and_intros
  | (with_reducible apply ev_if) <;> try and_intros
  | (with_reducible apply ev_chain) <;> try and_intros
  | (with_reducible apply ev_tup) <;> try and_intros
  | (with_reducible apply ev_lst) <;> try and_intros
  | (with_reducible apply ev_isa) <;> try and_intros
  | (with_reducible apply ev_lcM) <;> try and_intros
  | (with_reducible apply ev_lc) <;> try and_intros
  | (with_reducible apply ev_iSeq) <;> try and_intros
  | (with_reducible apply ev_iRng) <;> try and_intros
  | (with_reducible apply ev_iEnum) <;> try and_intros
  | (with_reducible apply ev_iZip) <;> try and_intros
  | (with_reducible apply ev_sl) <;> try and_intros
  | (with_reducible apply ev_pAt) <;> try and_intros
  | (with_reducible apply ev_rev) <;> try and_intros
  | (with_reducible apply ev_dct1) <;> try and_intros
  | (with_reducible apply ev_lenSet) <;> try and_intros
  | (with_reducible apply ev_srtSet) <;> try and_intros
  | (with_reducible apply ev_rgL1) <;> try and_intros
  | (with_reducible apply ev_seqNever) <;> try and_intros
  | (with_reducible apply ev_never) <;> try and_intros
  | (with_reducible apply ev_seqIfSet) <;> try and_intros
  | (with_reducible apply ev_ifRet) <;> try and_intros
  | (with_reducible apply ev_ifElse) <;> try and_intros
  | (with_reducible apply ev_seq) <;> try and_intros
  | (with_reducible apply ev_frz) <;> try and_intros
  | (with_reducible apply ev_frzNo) <;> try and_intros
  | (with_reducible apply ev_par) <;> try and_intros
  | (with_reducible apply ev_par2) <;> try and_intros
  | (with_reducible apply ev_par3) <;> try and_intros
  | (with_reducible apply ev_asg) <;> try and_intros
  | (with_reducible apply ev_app) <;> try and_intros
  | (with_reducible apply ev_ext) <;> try and_intros
  | with_reducible exact addA_int
  | with_reducible exact subD_int
  | with_reducible exact eqD_int
  | with_reducible exact neD_int
  | with_reducible exact ltD_int
  | with_reducible exact leD_int
  | with_reducible exact gtD_int
  | with_reducible exact geD_int
  | with_reducible exact eqD_str
  | with_reducible exact neD_str
  | with_reducible exact lenD_tup'
  | with_reducible exact lenD_lst'
  | with_reducible exact lenD_tup
  | with_reducible exact lenD_lst
  | with_reducible exact tupD_lst
  | with_reducible exact tupD_tup
  | with_reducible exact listD_lst
  | with_reducible exact listD_tup
  | with_reducible exact intD_int
  | with_reducible exact intD_bl
  | with_reducible exact absD_int
  | with_reducible exact allD_p _ _
  | with_reducible exact anyD_p _ _
  | with_reducible exact revD_tup'
  | with_reducible exact revD_lst'
  | with_reducible exact slA_tup'
  | with_reducible exact slA_lst'
  | with_reducible exact sumD_f
  | with_reducible exact inD_ints
  | with_reducible exact inD_intsL
  | with_reducible exact ninD_ints
  | with_reducible exact ninD_intsL
  | with_reducible exact repI
  | (with_reducible apply modD_int) <;> omega
  | (with_reducible apply mulS_l) <;> omega
  | (with_reducible apply mulS_r) <;> omega
  | (with_reducible apply add_tup) <;> try and_intros
  | (with_reducible apply add_lst) <;> try and_intros
  | (with_reducible apply ix_tup) <;> try and_intros
  | (with_reducible apply ix_lst) <;> try and_intros
  | (with_reducible apply ix_tup0) <;> try and_intros
  | (with_reducible apply ix_lst0) <;> try and_intros
  | (with_reducible apply ix_tupL) <;> try and_intros
  | (with_reducible apply ix_lstL) <;> try and_intros
  | (with_reducible apply ev_isOp) <;> try and_intros
  | (with_reducible apply ev_isntOp) <;> try and_intros
  | (with_reducible apply eqD_gen) <;> try and_intros
  | (with_reducible apply neD_gen) <;> try and_intros
  | (show _ ≠ _; first | omega | (simp only [decide_eq_false_iff_not, decide_eq_true_eq] at *; omega) | (simp_all; done) | (simp_all; omega) | skip)
  | (refine fun x hx => ⟨_, rfl, ?_, fun hp => ?_⟩) <;> try and_intros
  | (refine fun x hx => ⟨_, rfl, ?_⟩) <;> try and_intros
  | (with_reducible refine fun (_ : _ = _) => ?_) <;> try and_intros
  | rfl
  | omega
  | (simp only [decide_eq_false_iff_not, decide_eq_true_eq] at *; omega)
  | (simp; done)
  | (simp; omega)
  | (simp_all; done)
  | (simp_all; omega))
def draU (c0 : Int) : Sx := (sSeq (sSet 2 (eBin ixD (eBin ixD (eVar 0) (eC (.int 0))) (eBin ixD (eVar 0) (eC (.int 1))))) (sSeq (sSetAt 0 (eC (.int 1)) (eBin (pur addA) (eBin ixD (eVar 0) (eC (.int 1))) (eC (.int 1)))) (sSeq (sSetAt 0 (eC (.int 3)) (eBin (pur modD) (eFn (g1 fun d => lift (intD d)) (lCons (eBin (pur addA) (eBin (pur addA) (eBin (pur mulA) (eBin ixD (eVar 0) (eC (.int 3))) (eC (.int 69621))) (eBin (pur mulA) (eVar 2) (eC (.int 48271)))) (eC (.int c0))) lNil)) (eC (.int 2147483629)))) (sIf (tV (eBin (pur geD) (eVar 2) (eBin (pur powD) (eC (.int 10)) (eC (.int 18))))) (sSetAt 0 (eC (.int 2)) (eVar 2)) sNil))))
def draR : Sx := (sSeq (sIf (tV (eBin (pur gtD) (eBin ixD (eVar 0) (eC (.int 2))) (eC (.int 0)))) (sSeq (sSet 3 (eBin (pur modD) (eFn (g1 fun d => lift (intD d)) (lCons (eBin ixD (eVar 0) (eC (.int 2))) lNil)) (eVar 1))) (sSeq (sSetAt 0 (eC (.int 2)) (eBin (pur fdivD) (eBin ixD (eVar 0) (eC (.int 2))) (eVar 1))) (sRet (eVar 3)))) sNil) (sSeq (sSetAt 0 (eC (.int 4)) (eBin (pur addA) (eBin ixD (eVar 0) (eC (.int 4))) (eC (.int 1)))) (sSeq (sSet 4 (eBin (pur modD) (eFn (g1 fun d => lift (intD d)) (lCons (eBin (pur mulA) (eFn (g1 fun d => lift (intD d)) (lCons (eBin (pur addA) (eBin ixD (eVar 0) (eC (.int 3))) (eBin (pur mulA) (eC (.int 7919)) (eBin ixD (eVar 0) (eC (.int 4))))) lNil)) (eC (.int 40692))) lNil)) (eC (.int 2147483647)))) (sSeq (sSet 4 (eBin (pur modD) (eFn (g1 fun d => lift (intD d)) (lCons (eBin (pur mulA) (eVar 4) (eBin (pur addA) (eBin (pur fdivD) (eVar 4) (eC (.int 1009))) (eC (.int 69621)))) lNil)) (eC (.int 2147483647)))) (sSeq (sSet 4 (eBin (pur modD) (eFn (g1 fun d => lift (intD d)) (lCons (eBin (pur mulA) (eVar 4) (eBin (pur addA) (eBin (pur fdivD) (eVar 4) (eC (.int 2003))) (eC (.int 40014)))) lNil)) (eC (.int 2147483563)))) (sRet (eBin (pur modD) (eFn (g1 fun d => lift (intD d)) (lCons (eBin (pur fdivD) (eVar 4) (eC (.int 16))) lNil)) (eVar 1))))))))
def draM (c0 : Int) : Sx := sSeq (sIf drawT (draU c0) sNil) draR
theorem rest2_ok {e : En} {cs : List Int} {a b s c many : Int} (e0 : e 0 = some (false, .obj 0)) (e1 : e 1 = some (false, .int many)) (hc : ∀ x ∈ cs, 0 ≤ x) (ha : 0 ≤ a) (hb : 0 ≤ b) (hs : 0 ≤ s) (hcc : 0 ≤ c) (h1 : 1 ≤ many) (h2 : many < 1073741824) (hl : cs.length ≤ 63) :
    ∃ r h', bnd (draR e) fin [hnd cs a b s c] = .ok (.int r) [h'] ∧ 0 ≤ r ∧ r < many ∧ Hok h' := by
  have q1 : ∀ {i : Int}, modD (.int i) (.int many) = some (.int (i % many)) := fun {i} => modD_int (by omega)
  have q2 : ∀ {i : Int}, fdivD (.int i) (.int many) = some (.int (i / many)) := fun {i} => fdivD_int (by omega) h2
  by_cases hb0 : 0 < b
  · refine ⟨b % many, hnd cs a (b / many) s c, ?_, Int.emod_nonneg _ (by omega), Int.emod_lt_of_pos _ (by omega), ⟨⟨cs, a, b / many, s, c, rfl, hc, ha, Int.ediv_nonneg (by omega) (by omega), hs, hcc, hl⟩⟩⟩
    have : ¬ b = 0 := by omega
    simp [ixD, atI, absD, intD, lenD, tupD, listD, sumD, lotD, draR, hnd, this, hb0, e0, e1, q1, q2, fin]
  · have hbz : b = 0 := by omega
    subst hbz
    refine ⟨_, hnd cs a 0 s (c + 1), by simp [ixD, atI, absD, intD, lenD, tupD, listD, sumD, lotD, draR, hnd, e0, e1, q1, q2, mulA_r, mulA_l, modD_int, fdivD_int, mulA_mod, fin]; rfl, Int.emod_nonneg _ (by omega), Int.emod_lt_of_pos _ (by omega), ⟨⟨cs, a, 0, s, c + 1, rfl, hc, ha, by omega, hs, by omega, hl⟩⟩⟩
theorem draw2_ok {c0 : Int} {h : List D} (hh : Hok h) {many : Int} (h1 : 1 ≤ many) (h2 : many < 1073741824) : ∃ r h', callS .froz (draM c0) [.obj 0, .int many] [h] = .ok (.int r) [h'] ∧ 0 ≤ r ∧ r < many ∧ Hok h' := by
  obtain ⟨cs, a, b, s, c, rfl, hc, ha, hb, hs, hcc, hl⟩ := hh.ex
  have start : ∀ {e : En} {st1 : Store}, sIf drawT (draU c0) sNil (env0 [.obj 0, .int many]) [hnd cs a b s c] = .ok (.nx e) st1 → callS .froz (draM c0) [.obj 0, .int many] [hnd cs a b s c] = bnd (draR e) fin st1 := fun {e st1} q => by
    show bnd (bnd (sIf drawT (draU c0) sNil (env0 [.obj 0, .int many])) _) _ _ = _
    simp only [bnd_ok', q]
    rfl
  by_cases hif : b = 0 ∧ a < cs.length
  · obtain ⟨rfl, hlt⟩ := hif
    obtain ⟨j, rfl⟩ : ∃ j : Nat, a = j := ⟨a.toNat, by omega⟩
    have hj : j < cs.length := by omega
    have hx := hc cs[j] (List.getElem_mem hj)
    have r1 : ∃ e, e 0 = some (false, .obj 0) ∧ e 1 = some (false, .int many) ∧ sIf drawT (draU c0) sNil (env0 [.obj 0, .int many]) [hnd cs j 0 s c] = .ok (.nx e) [hnd cs (j + 1) (if 1000000000000000000 ≤ cs[j] then cs[j] else 0) ((s * 69621 + cs[j] * 48271 + c0) % 2147483629) c] := by
      refine ⟨(env0 [.obj 0, .int many]).put 2 false (.int cs[j]), by simp [ixD, atI, absD, intD, lenD, tupD, listD, sumD, lotD], by simp [ixD, atI, absD, intD, lenD, tupD, listD, sumD, lotD], ?_⟩
      by_cases z : 1000000000000000000 ≤ cs[j]
      · simp [ixD, atI, absD, intD, lenD, tupD, listD, sumD, lotD, drawT, draU, hnd, hj, mulA_r, mulA_l, modD_int, pow18, z]
      · simp [ixD, atI, absD, intD, lenD, tupD, listD, sumD, lotD, drawT, draU, hnd, hj, mulA_r, mulA_l, modD_int, pow18, z]
    obtain ⟨e, e0, e1, q⟩ := r1
    rw [start q]
    exact rest2_ok e0 e1 hc (by omega) (by split <;> omega) (Int.emod_nonneg _ (by decide)) hcc h1 h2 hl
  · have r1 : sIf drawT (draU c0) sNil (env0 [.obj 0, .int many]) [hnd cs a b s c] = .ok (.nx (env0 [.obj 0, .int many])) [hnd cs a b s c] := by
      by_cases hb0 : b = 0
      · have : ¬ a < cs.length := fun z => hif ⟨hb0, z⟩
        subst hb0
        simp [ixD, atI, absD, intD, lenD, tupD, listD, sumD, lotD, drawT, hnd, this]
      · simp [ixD, atI, absD, intD, lenD, tupD, listD, sumD, lotD, drawT, hnd, hb0]
    rw [start r1]
    exact rest2_ok (by simp [ixD, atI, absD, intD, lenD, tupD, listD, sumD, lotD]) (by simp [ixD, atI, absD, intD, lenD, tupD, listD, sumD, lotD]) hc ha hb hs hcc h1 h2 hl
def dr2F (c0 : Int) : Fx := callS .froz (draM c0)
def cAny (c0 : Int) : Sx := (sRet (eBin ixD (eVar 1) (eFn (dr2F c0) (lCons (eVar 0) (lCons (eFn (g1 fun d => lift (lenD d)) (lCons (eVar 1) lNil)) lNil)))))
def fAny (c0 : Int) : Fx := callS .froz (cAny c0)
def cHand2 (A B : Int) : Sx := (sSeq (sSet 1 (eLc [2, 3] (iSeq (eSl slA (eVar 0) pNo (pAt (eC (.int 63))))) (gNm 3) tYesS (eBin (pur modD) (eFn (g1 fun d => lift (intD d)) (lCons (eFn (g1 fun d => lift (absD d)) (lCons (eFn (g1 fun d => lift (intD d)) (lCons (eVar 3) lNil)) lNil)) lNil)) (eBin (pur powD) (eC (.int 10)) (eC (.int 36)))))) (sRet (eLst (lCons (eVar 1) (lCons (eC (.int 0)) (lCons (eC (.int 0)) (lCons (eBin (pur addA) (eC (.int A)) (eBin (pur mulA) (eC (.int B)) (eFn (g1 fun d => lift (lenD d)) (lCons (eVar 1) lNil)))) (lCons (eC (.int 0)) lNil))))))))
def fHand2 (A B : Int) : Fx := callS .fresh (cHand2 A B)
def dn2 (c0 : Int) (h : List D) (k : Int) : Nat := match dr2F c0 [.obj 0, .int k] [h] with
  | .ok (.int r) _ => r.toNat
  | _ => 0
def dh2 (c0 : Int) (h : List D) (k : Int) : List D := match dr2F c0 [.obj 0, .int k] [h] with
  | .ok _ [h'] => h'
  | _ => h
section
variable {c0 : Int} {h : List D} {k : Int}
theorem d2_all (hh : Hok h) (h1 : 1 ≤ k) (h2 : k < 1073741824) : dr2F c0 [.obj 0, .int k] [h] = .ok (.int (dn2 c0 h k : Nat)) [dh2 c0 h k] ∧ (dn2 c0 h k : Int) < k ∧ Hok (dh2 c0 h k) := by
  obtain ⟨r, h', e, r0, r1, hk⟩ := draw2_ok (c0 := c0) hh h1 h2
  have e' : dr2F c0 [.obj 0, .int k] [h] = .ok (.int r) [h'] := e
  unfold dn2 dh2
  rw [e']
  refine ⟨?_, ?_, hk⟩
  · show Res.ok (D.int r) [h'] = .ok (.int (r.toNat : Nat)) [h']
    rw [Int.toNat_of_nonneg r0]
  · show ((r.toNat : Nat) : Int) < k
    omega
theorem d2_eq (hh : Hok h) (h1 : 1 ≤ k) (h2 : k < 1073741824) : dr2F c0 [.obj 0, .int k] [h] = .ok (.int (dn2 c0 h k : Nat)) [dh2 c0 h k] := (d2_all hh h1 h2).1
theorem dn2_lt (hh : Hok h) (h1 : 1 ≤ k) (h2 : k < 1073741824) : (dn2 c0 h k : Int) < k := (d2_all hh h1 h2).2.1
theorem dh2_ok (hh : Hok h) (h1 : 1 ≤ k) (h2 : k < 1073741824) : Hok (dh2 c0 h k) := (d2_all hh h1 h2).2.2
theorem any_eq {α : Type} [Inhabited α] {xs : List α} {f : α → D} (hh : Hok h) (h1 : 1 ≤ xs.length) (h2 : xs.length ≤ 1000000) : fAny c0 [.obj 0, .lst (xs.map f)] [h] = .ok (f (xs.getD (dn2 c0 h xs.length) default)) [dh2 c0 h xs.length] := by
  have hd := d2_eq (c0 := c0) hh (k := (xs.length : Int)) (by omega) (by omega)
  have hlt := dn2_lt (c0 := c0) hh (k := (xs.length : Int)) (by omega) (by omega)
  have hlt' : dn2 c0 h xs.length < xs.length := by omega
  refine callS_rt (sRet_eq ?_)
  refine ev_ix (x := .lst (xs.map f)) (y := .int (dn2 c0 h xs.length : Nat)) (st1 := [h]) (ev_var rfl) (ev_fn (ev_cons (ev_var rfl) (ev_cons (ev_fn (ev_cons (ev_var rfl) lNil_eq) (ev_g1 lenD_lst')) lNil_eq)) hd) ?_
  exact ix_lst (i := dn2 c0 h xs.length) (a := xs.getD (dn2 c0 h xs.length) default) (by simp [List.getD, hlt'])
theorem any_mem {α : Type} [Inhabited α] {xs : List α} (hh : Hok h) (h1 : 1 ≤ xs.length) (h2 : xs.length ≤ 1000000) : xs.getD (dn2 c0 h xs.length) default ∈ xs := by
  have hlt := dn2_lt (c0 := c0) hh (k := (xs.length : Int)) (by omega) (by omega)
  exact getD_mem (by omega)
end
theorem pow36 : powD (.int 10) (.int 36) = some (.int 1000000000000000000000000000000000000) := by
  show (if (0 : Int) ≤ 36 ∧ (36 : Int) ≤ 1000000 ∧ (10 : Int).natAbs < 2 ^ 64 then some (D.int (10 ^ (36 : Int).toNat)) else none) = _
  rw [if_pos (by decide)]
  rfl
theorem hand2_ok {A B : Int} (hA : 0 ≤ A ∧ A < 1000000) (hB : 0 ≤ B ∧ B < 1000000) {ns : List Int} (hl : ns.length ≤ 63) {st : Store} : ∃ h, fHand2 A B [scrD ns] st = .ok (.lst h) st ∧ Hok h := by
  let cs : List Int := ns.map fun i => (if i < 0 then -i else i) % 1000000000000000000000000000000000000
  refine ⟨hnd cs 0 0 (A + B * (cs.length : Nat)) 0, ?_, ⟨cs, 0, 0, _, 0, rfl, fun x hx => ?_, by omega, by omega, ?_, by omega, by simpa [cs] using hl⟩⟩
  · refine callS_frt ?_
    unfold cHand2
    have a1 : eLc [2, 3] (iSeq (eSl slA (eVar 0) pNo (pAt (eC (.int 63))))) (gNm 3) tYesS (eBin (pur modD) (eFn (g1 fun d => lift (intD d)) (lCons (eFn (g1 fun d => lift (absD d)) (lCons (eFn (g1 fun d => lift (intD d)) (lCons (eVar 3) lNil)) lNil)) lNil)) (eBin (pur powD) (eC (.int 10)) (eC (.int 36)))) (env0 [scrD ns]) st = .ok (lN cs) st := by
      refine Eq.trans (ev_lcM (st1 := st) ns .int (fun i => .int ((if i < 0 then -i else i) % 1000000000000000000000000000000000000)) ?_ (fun x hm => ⟨_, rfl, ev_bin (ev_fn (ev_cons (ev_fn (ev_cons (ev_fn (ev_cons (ev_var put_eq) lNil_eq) (ev_g1 intD_int)) lNil_eq) (ev_g1 absD_int)) lNil_eq) (ev_g1 intD_int)) (ev_bin eC_eq eC_eq pow36) (modD_int (by omega))⟩) (by omega)) (by simp [cs])
      refine ev_iSeq (x := .lst (ns.map .int)) (ev_sl (x := scrD ns) (ev_var rfl) ev_pNo (ev_pAt eC_eq) ?_) rfl
      show some (D.lst (cut (ns.map .int) none (some ((63 : Nat) : Int)))) = _
      rw [cut_to, List.take_of_length_le (by simpa using hl)]
    refine ev_seq (ev_set a1) (ev_ret ?_)
    have e : hnd cs 0 0 (A + B * (cs.length : Nat)) 0 = [lN cs, .int 0, .int 0, .int (A + B * (cs.length : Nat)), .int 0] := rfl
    rw [e]
    refine ev_lst (ev_cons (ev_var put_eq) (ev_cons eC_eq (ev_cons eC_eq (ev_cons (ev_bin eC_eq (ev_bin eC_eq (ev_fn (ev_cons (ev_var put_eq) lNil_eq) (ev_g1 lenD_lst')) (mulS_l (by omega))) addA_int) (ev_cons eC_eq lNil_eq)))))
  · obtain ⟨i, _, rfl⟩ := List.mem_map.mp hx
    exact Int.emod_nonneg _ (by decide)
  · have := Int.mul_nonneg hB.1 (show (0 : Int) ≤ (cs.length : Nat) by omega)
    omega
end Sm


set_option Elab.async false
set_option linter.all false
set_option maxRecDepth 100000
set_option maxHeartbeats 2000000
/-! Cm3: what laws with exceptions share: how an exception goes through, drawing, Euclid's loop. -/
namespace Sm
open PySem PySem.Spec L2
section
variable {α β : Type} {env e1 : En} {st st1 st2 : Store} {d x : D} {i : Nat} {b : Bool} {m ma mb : Ex} {t : Tx} {s k s2 : Sx} {ml : Lx} {c : Str} {fs : List (Str × D)} {ds : List D} {F : Fx} {κ : Kd}
theorem xc_bnd {m : M α} {f : α → M β} (h : m st = .exc c fs st1) : bnd m f st = .exc c fs st1 := by unfold bnd; rw [h]
theorem ev_raise : sRaise c env st = .exc c [] st := rfl
theorem xc_seq (h : s env st = .exc c fs st1) : sSeq s k env st = .exc c fs st1 := xc_bnd h
theorem xc_if (h : t env st = .ok true st1) : sIf t (sRaise c) s2 env st = .exc c [] st1 := by rw [sIf_eq h]; rfl
theorem xc_drop (h : m env st = .exc c fs st1) : sDrop m env st = .exc c fs st1 := xc_bnd h
theorem xc_ret (h : m env st = .exc c fs st1) : sRet m env st = .exc c fs st1 := xc_bnd h
theorem xc_set (h : m env st = .exc c fs st1) : sSet i m env st = .exc c fs st1 := xc_bnd h
theorem xc_fn (h : ml env st = .ok ds st1) (k : F ds st1 = .exc c fs st2) : eFn F ml env st = .exc c fs st2 := by unfold eFn; rw [bnd_eq h, k]
theorem xc_call (h : s (env0 ds) st = .exc c fs st1) : callS κ s ds st = .exc c fs st1 := by unfold callS; rw [xc_bnd h]
theorem xc_callV {y : Str} {l : List (Str × Fx)} (h : env i = some (false, .glo y)) (hF : l.lookup y = some F) (hm : ml env st = .ok ds st1) (hr : F ds st1 = .exc c fs st2) : eCallV i (fxTab l) ml env st = .exc c fs st2 := ev_callV (st2 := st2) h hF hm hr
theorem ev_lam {F : M D → M D} {r : Res D} (h : F (m env) st = r) : eLam F m env st = r := h
/-- the test that a check asks -/
theorem or_yes {a b : Bool} {u : Tx} (h1 : t env st = .ok a st) (h2 : u env st = .ok b st) (h : a = true ∨ b = true) : tOr' t u env st = .ok true st := by
  cases a with
  | true => exact tOr_yes h1
  | false =>
    rw [tOr_no h1, h2]
    rcases h with h | h
    · cases h
    · rw [h]
end
theorem sortD_lI {l : List Int} : sortD (.lst (l.map .int)) = some (.lst ((srtI l).map .int)) := by
  unfold sortD
  have e : srtOk (l.map .int) = true := by
    unfold srtOk
    rw [alkL_ints]
    have : (l.map D.int).all noTp = true := by
      rw [List.all_map, List.all_eq_true]
      intro x _
      rfl
    rw [this, Bool.or_true]
    rfl
  show (if srtOk (l.map D.int) = true then some (D.lst (sortL (l.map .int))) else none) = _
  rw [if_pos e]
  congr 2
  unfold sortL srtI
  refine (List.map_mergeSort (f := D.int) (fun a _ b _ => ?_)).symm
  rw [lt_int', Bool.eq_iff_iff]
  simp

instance : Inhabited D := ⟨.non⟩
theorem any_dd {c0 : Int} {h : List D} {xs : List D} (hh : Hok h) (h1 : 1 ≤ xs.length) (h2 : xs.length ≤ 1000000) : ∃ d h', fAny c0 [.obj 0, .lst xs] [h] = .ok d [h'] ∧ d ∈ xs ∧ Hok h' := by
  have e := any_eq (c0 := c0) (xs := xs) (f := id) hh h1 h2
  rw [List.map_id] at e
  exact ⟨_, _, e, any_mem (c0 := c0) hh h1 h2, dh2_ok hh (by omega) (by omega)⟩
theorem draw_d {c0 : Int} {h : List D} {k : Int} (hh : Hok h) (h1 : 1 ≤ k) (h2 : k < 1073741824) : ∃ (x : Nat) (h' : List D), dr2F c0 [.obj 0, .int k] [h] = .ok (.int x) [h'] ∧ (x : Int) < k ∧ Hok h' :=
  ⟨_, _, d2_eq hh h1 h2, dn2_lt hh h1 h2, dh2_ok hh h1 h2⟩
local macro_rules | `(tactic| and_intros) => `(tactic| first
  | (show _ = _; with_reducible assumption)
  | with_reducible exact eC_eq
  | with_reducible exact lNil_eq
  | with_reducible exact ev_pNo
  | with_reducible exact put_eq
  | (with_reducible refine put_no ?_ (by rfl)) <;> and_intros
  | (with_reducible refine clr_no ?_ (by rfl)) <;> and_intros
  | (with_reducible apply ev_var) <;> try and_intros
  | (with_reducible apply ev_varB) <;> try and_intros
  | (with_reducible apply ev_cons) <;> try and_intros
  | (with_reducible apply ev_tV) <;> try and_intros
  | (with_reducible apply ev_bin) <;> try and_intros
  | (with_reducible apply ev_ix) <;> try and_intros
  | (with_reducible apply ev_fn) <;> try and_intros
  | (with_reducible apply ev_g1) <;> try and_intros
  | (with_reducible apply ev_g2) <;> try and_intros
  | (with_reducible apply ev_set) <;> try and_intros
  | (with_reducible apply ev_ret) <;> try and_intros
  | (with_reducible apply ev_own) <;> try and_intros
  | (with_reducible apply ev_drop) <;> try and_intros
  | (with_reducible apply ev_tNot) <;> try and_intros
  | (with_reducible apply ev_tAnd) <;> try and_intros
  | (with_reducible apply ev_tOr) <;> try and_intros
  | (with_reducible apply ev_and) <;> try and_intros
  | (with_reducible apply ev_or) <;> try and_intros
  | (with_reducible apply ev_not) <;> try and_intros
  | (with_reducible apply ev_neg) <;> try and_intros
  | (with_reducible apply ev_if) <;> try and_intros
  | (with_reducible apply ev_chain) <;> try and_intros
  | (with_reducible apply ev_tup) <;> try and_intros
  | (with_reducible apply ev_lst) <;> try and_intros
  | (with_reducible apply ev_isa) <;> try and_intros
  | (with_reducible apply ev_lcM) <;> try and_intros
  | (with_reducible apply ev_lc) <;> try and_intros
  | (with_reducible apply ev_iSeq) <;> try and_intros
  | (with_reducible apply ev_iRng) <;> try and_intros
  | (with_reducible apply ev_iEnum) <;> try and_intros
  | (with_reducible apply ev_iZip) <;> try and_intros
  | (with_reducible apply ev_sl) <;> try and_intros
  | (with_reducible apply ev_pAt) <;> try and_intros
  | (with_reducible apply ev_rev) <;> try and_intros
  | (with_reducible apply ev_dct1) <;> try and_intros
  | (with_reducible apply ev_lenSet) <;> try and_intros
  | (with_reducible apply ev_srtSet) <;> try and_intros
  | (with_reducible apply ev_rgL1) <;> try and_intros
  | (with_reducible apply ev_seqNever) <;> try and_intros
  | (with_reducible apply ev_never) <;> try and_intros
  | (with_reducible apply ev_seqIfSet) <;> try and_intros
  | (with_reducible apply ev_ifRet) <;> try and_intros
  | (with_reducible apply ev_ifElse) <;> try and_intros
  | (with_reducible apply ev_seq) <;> try and_intros
  | (with_reducible apply ev_frz) <;> try and_intros
  | (with_reducible apply ev_frzNo) <;> try and_intros
  | (with_reducible apply ev_par) <;> try and_intros
  | (with_reducible apply ev_par2) <;> try and_intros
  | (with_reducible apply ev_par3) <;> try and_intros
  | (with_reducible apply ev_asg) <;> try and_intros
  | (with_reducible apply ev_app) <;> try and_intros
  | (with_reducible apply ev_ext) <;> try and_intros
  | with_reducible exact addA_int
  | with_reducible exact subD_int
  | with_reducible exact eqD_int
  | with_reducible exact neD_int
  | with_reducible exact ltD_int
  | with_reducible exact leD_int
  | with_reducible exact gtD_int
  | with_reducible exact geD_int
  | with_reducible exact eqD_str
  | with_reducible exact neD_str
  | with_reducible exact lenD_tup'
  | with_reducible exact lenD_lst'
  | with_reducible exact lenD_tup
  | with_reducible exact lenD_lst
  | with_reducible exact tupD_lst
  | with_reducible exact tupD_tup
  | with_reducible exact listD_lst
  | with_reducible exact listD_tup
  | with_reducible exact intD_int
  | with_reducible exact intD_bl
  | with_reducible exact absD_int
  | with_reducible exact allD_p _ _
  | with_reducible exact anyD_p _ _
  | with_reducible exact revD_tup'
  | with_reducible exact revD_lst'
  | with_reducible exact slA_tup'
  | with_reducible exact slA_lst'
  | with_reducible exact sumD_f
  | with_reducible exact inD_ints
  | with_reducible exact inD_intsL
  | with_reducible exact ninD_ints
  | with_reducible exact ninD_intsL
  | with_reducible exact repI
  | (with_reducible apply modD_int) <;> omega
  | (with_reducible apply mulS_l) <;> omega
  | (with_reducible apply mulS_r) <;> omega
  | (with_reducible apply add_tup) <;> try and_intros
  | (with_reducible apply add_lst) <;> try and_intros
  | (with_reducible apply ix_tup) <;> try and_intros
  | (with_reducible apply ix_lst) <;> try and_intros
  | (with_reducible apply ix_tup0) <;> try and_intros
  | (with_reducible apply ix_lst0) <;> try and_intros
  | (with_reducible apply ix_tupL) <;> try and_intros
  | (with_reducible apply ix_lstL) <;> try and_intros
  | (with_reducible apply ev_isOp) <;> try and_intros
  | (with_reducible apply ev_isntOp) <;> try and_intros
  | (with_reducible apply eqD_gen) <;> try and_intros
  | (with_reducible apply neD_gen) <;> try and_intros
  | (show _ ≠ _; first | omega | (simp only [decide_eq_false_iff_not, decide_eq_true_eq] at *; omega) | (simp_all; done) | (simp_all; omega) | skip)
  | (refine fun x hx => ⟨_, rfl, ?_, fun hp => ?_⟩) <;> try and_intros
  | (refine fun x hx => ⟨_, rfl, ?_⟩) <;> try and_intros
  | (with_reducible refine fun (_ : _ = _) => ?_) <;> try and_intros
  | rfl
  | omega
  | (simp only [decide_eq_false_iff_not, decide_eq_true_eq] at *; omega)
  | (simp; done)
  | (simp; omega)
  | (simp_all; done)
  | (simp_all; omega))
/-! ### Euclid's loop -/
theorem euclid {t : Tx} {b : Sx} {W : List Nat} (P : Nat → Nat → En → Prop) (st : Store) (ht : ∀ x y e, P x y e → t e st = .ok (decide (y ≠ 0)) st) (hb : ∀ x y e, P x y e → y ≠ 0 → ∃ e', b e st = .ok (.nx e') st ∧ P y (x % y) e') :
    ∀ (k n : Nat) (x y : Nat) (e : En), y < 2 ^ k → 2 * k < n → P x y e → ∃ e', whileS t b n e st = .ok (.nx e') st ∧ P (Nat.gcd x y) 0 e' := by
  intro k
  have stop : ∀ (n x : Nat) (e : En), 0 < n → P x 0 e → ∃ e', whileS t b n e st = .ok (.nx e') st ∧ P (Nat.gcd x 0) 0 e' := fun n x e hn h => by
    cases n with
    | zero => omega
    | succ n =>
      refine ⟨e, ?_, by rw [Nat.gcd_zero_right]; exact h⟩
      unfold whileS
      rw [bnd_eq (ht x 0 e h)]
      rfl
  have go : ∀ (n x y : Nat) (e : En), P x y e → y ≠ 0 → ∃ e1, P y (x % y) e1 ∧ whileS t b (n + 1) e st = whileS t b n e1 st := fun n x y e h hy => by
    obtain ⟨e1, h1, h2⟩ := hb x y e h hy
    refine ⟨e1, h2, ?_⟩
    conv => lhs; unfold whileS
    rw [bnd_eq (ht x y e h)]
    show (if decide (y ≠ 0) = true then (_ : M Fl) else _) st = _
    rw [if_pos (by simpa using hy), bnd_eq h1]
  have gc : ∀ x y : Nat, Nat.gcd x y = Nat.gcd y (x % y) := fun x y => by
    rw [Nat.gcd_comm x y, Nat.gcd_rec y x, Nat.gcd_comm]
  induction k with
  | zero =>
    intro n x y e hy hn h
    have : y = 0 := by simp at hy; omega
    subst this
    exact stop n x e (by omega) h
  | succ k ih =>
    intro n x y e hy hn h
    by_cases q : y = 0
    · subst q; exact stop n x e (by omega) h
    · obtain ⟨n, rfl⟩ : ∃ m, n = m + 1 := ⟨n - 1, by omega⟩
      obtain ⟨e1, h1, w1⟩ := go n x y e h q
      rw [w1, gc x y]
      by_cases q2 : x % y < 2 ^ k
      · exact ih n y (x % y) e1 q2 (by omega) h1
      · have q3 : x % y ≠ 0 := by have := Nat.two_pow_pos k; omega
        obtain ⟨n, rfl⟩ : ∃ m, n = m + 1 := ⟨n - 1, by omega⟩
        obtain ⟨e2, h2, w2⟩ := go n y (x % y) e1 h1 q3
        rw [w2, gc y (x % y)]
        refine ih n (x % y) (y % (x % y)) e2 ?_ (by omega) h2
        have h3 : x % y < y := Nat.mod_lt _ (by omega)
        have h4 : y % (x % y) ≤ y - x % y := by
          rw [Nat.mod_eq_sub_mod (by omega)]
          exact Nat.mod_le _ _
        rw [Nat.pow_succ] at hy
        omega
theorem fdiv_g {i j : Int} (h : 0 < j) (h2 : j.natAbs < 2 ^ 200) : fdivD (.int i) (.int j) = some (.int (i / j)) := by
  have : 0 < j ∧ j.natAbs.log2 < 9000 ∨ (j ≠ 0 ∧ j.natAbs < 1073741824) := .inl ⟨h, (Nat.log2_lt (by omega)).mpr (Nat.lt_of_lt_of_le h2 (Nat.pow_le_pow_right (by decide) (by decide)))⟩
  show (if 0 < j ∧ j.natAbs.log2 < 9000 ∨ (j ≠ 0 ∧ j.natAbs < 1073741824) then some (D.int (i.fdiv j)) else none) = _
  rw [if_pos this, Int.fdiv_eq_ediv_of_nonneg i (by omega)]

theorem abs_nat (i : Int) : (if i < 0 then -i else i) = (i.natAbs : Nat) := by split <;> omega
def gd (t b : Int) : Int := (Int.gcd t b : Nat)
end Sm


set_option Elab.async false
set_option linter.all false
set_option maxRecDepth 100000
set_option maxHeartbeats 2000000
/-! Cm4: small things whose repr is asked. -/
namespace Sm
open PySem PySem.Spec L2
theorem rok_tN {m : List Int} (h : ∀ x ∈ m, -1000000000 < x ∧ x < 1000000000) (hl : m.length ≤ 1000) : Rok (tN m) := (rw_tN h).rok
theorem rok_lN {m : List Int} (h : ∀ x ∈ m, -1000000000 < x ∧ x < 1000000000) (hl : m.length ≤ 1000) : Rok (lN m) := (rw_lN h).rok
theorem rok_i {i : Int} (h : -1000000000 < i ∧ i < 1000000000) : Rok (.int i) := (rw_int h).rok
theorem rok_no : Rok .non := rw_non.rok
theorem rok_b {b : Bool} : Rok (.bl b) := rw_bl.rok
end Sm


set_option Elab.async false
set_option linter.all false
set_option maxRecDepth 100000
set_option maxHeartbeats 2000000
/-! Cm5: least and greatest of ints, loops that raise, deep things of another beginning. -/
namespace Sm
open PySem PySem.Spec L2
local macro_rules | `(tactic| and_intros) => `(tactic| first
  | (show _ = _; with_reducible assumption)
  | with_reducible exact eC_eq
  | with_reducible exact lNil_eq
  | with_reducible exact ev_pNo
  | with_reducible exact put_eq
  | (with_reducible refine put_no ?_ (by rfl)) <;> and_intros
  | (with_reducible refine clr_no ?_ (by rfl)) <;> and_intros
  | (with_reducible apply ev_var) <;> try and_intros
  | (with_reducible apply ev_varB) <;> try and_intros
  | (with_reducible apply ev_cons) <;> try and_intros
  | (with_reducible apply ev_tV) <;> try and_intros
  | (with_reducible apply ev_bin) <;> try and_intros
  | (with_reducible apply ev_ix) <;> try and_intros
  | (with_reducible apply ev_fn) <;> try and_intros
  | (with_reducible apply ev_g1) <;> try and_intros
  | (with_reducible apply ev_g2) <;> try and_intros
  | (with_reducible apply ev_set) <;> try and_intros
  | (with_reducible apply ev_ret) <;> try and_intros
  | (with_reducible apply ev_own) <;> try and_intros
  | (with_reducible apply ev_drop) <;> try and_intros
  | (with_reducible apply ev_tNot) <;> try and_intros
  | (with_reducible apply ev_tAnd) <;> try and_intros
  | (with_reducible apply ev_tOr) <;> try and_intros
  | (with_reducible apply ev_and) <;> try and_intros
  | (with_reducible apply ev_or) <;> try and_intros
  | (with_reducible apply ev_not) <;> try and_intros
  | (with_reducible apply ev_neg) <;> try and_intros
  | (with_reducible apply ev_if) <;> try and_intros
  | (with_reducible apply ev_chain) <;> try and_intros
  | (with_reducible apply ev_tup) <;> try and_intros
  | (with_reducible apply ev_lst) <;> try and_intros
  | (with_reducible apply ev_isa) <;> try and_intros
  | (with_reducible apply ev_lcM) <;> try and_intros
  | (with_reducible apply ev_lc) <;> try and_intros
  | (with_reducible apply ev_iSeq) <;> try and_intros
  | (with_reducible apply ev_iRng) <;> try and_intros
  | (with_reducible apply ev_iEnum) <;> try and_intros
  | (with_reducible apply ev_iZip) <;> try and_intros
  | (with_reducible apply ev_sl) <;> try and_intros
  | (with_reducible apply ev_pAt) <;> try and_intros
  | (with_reducible apply ev_rev) <;> try and_intros
  | (with_reducible apply ev_dct1) <;> try and_intros
  | (with_reducible apply ev_lenSet) <;> try and_intros
  | (with_reducible apply ev_srtSet) <;> try and_intros
  | (with_reducible apply ev_rgL1) <;> try and_intros
  | (with_reducible apply ev_seqNever) <;> try and_intros
  | (with_reducible apply ev_never) <;> try and_intros
  | (with_reducible apply ev_seqIfSet) <;> try and_intros
  | (with_reducible apply ev_ifRet) <;> try and_intros
  | (with_reducible apply ev_ifElse) <;> try and_intros
  | (with_reducible apply ev_seq) <;> try and_intros
  | (with_reducible apply ev_frz) <;> try and_intros
  | (with_reducible apply ev_frzNo) <;> try and_intros
  | (with_reducible apply ev_par) <;> try and_intros
  | (with_reducible apply ev_par2) <;> try and_intros
  | (with_reducible apply ev_par3) <;> try and_intros
  | (with_reducible apply ev_asg) <;> try and_intros
  | (with_reducible apply ev_app) <;> try and_intros
  | (with_reducible apply ev_ext) <;> try and_intros
  | with_reducible exact addA_int
  | with_reducible exact subD_int
  | with_reducible exact eqD_int
  | with_reducible exact neD_int
  | with_reducible exact ltD_int
  | with_reducible exact leD_int
  | with_reducible exact gtD_int
  | with_reducible exact geD_int
  | with_reducible exact eqD_str
  | with_reducible exact neD_str
  | with_reducible exact lenD_tup'
  | with_reducible exact lenD_lst'
  | with_reducible exact lenD_tup
  | with_reducible exact lenD_lst
  | with_reducible exact tupD_lst
  | with_reducible exact tupD_tup
  | with_reducible exact listD_lst
  | with_reducible exact listD_tup
  | with_reducible exact intD_int
  | with_reducible exact intD_bl
  | with_reducible exact absD_int
  | with_reducible exact allD_p _ _
  | with_reducible exact anyD_p _ _
  | with_reducible exact revD_tup'
  | with_reducible exact revD_lst'
  | with_reducible exact slA_tup'
  | with_reducible exact slA_lst'
  | with_reducible exact sumD_f
  | with_reducible exact inD_ints
  | with_reducible exact inD_intsL
  | with_reducible exact ninD_ints
  | with_reducible exact ninD_intsL
  | with_reducible exact repI
  | (with_reducible apply modD_int) <;> omega
  | (with_reducible apply mulS_l) <;> omega
  | (with_reducible apply mulS_r) <;> omega
  | (with_reducible apply add_tup) <;> try and_intros
  | (with_reducible apply add_lst) <;> try and_intros
  | (with_reducible apply ix_tup) <;> try and_intros
  | (with_reducible apply ix_lst) <;> try and_intros
  | (with_reducible apply ix_tup0) <;> try and_intros
  | (with_reducible apply ix_lst0) <;> try and_intros
  | (with_reducible apply ix_tupL) <;> try and_intros
  | (with_reducible apply ix_lstL) <;> try and_intros
  | (with_reducible apply ev_isOp) <;> try and_intros
  | (with_reducible apply ev_isntOp) <;> try and_intros
  | (with_reducible apply eqD_gen) <;> try and_intros
  | (with_reducible apply neD_gen) <;> try and_intros
  | (show _ ≠ _; first | omega | (simp only [decide_eq_false_iff_not, decide_eq_true_eq] at *; omega) | (simp_all; done) | (simp_all; omega) | skip)
  | (refine fun x hx => ⟨_, rfl, ?_, fun hp => ?_⟩) <;> try and_intros
  | (refine fun x hx => ⟨_, rfl, ?_⟩) <;> try and_intros
  | (with_reducible refine fun (_ : _ = _) => ?_) <;> try and_intros
  | rfl
  | omega
  | (simp only [decide_eq_false_iff_not, decide_eq_true_eq] at *; omega)
  | (simp; done)
  | (simp; omega)
  | (simp_all; done)
  | (simp_all; omega))
/-! ### least, greatest -/
def mnL (l : List Int) : Int := match l with | [] => 0 | x :: xs => mn x xs
def mxL (l : List Int) : Int := match l with | [] => 0 | x :: xs => mx x xs
theorem mx_le : ∀ (xs : List Int) (x : Int), x ≤ mx x xs ∧ (∀ y ∈ xs, y ≤ mx x xs)
  | [], x => ⟨Int.le_refl _, fun y h => by cases h⟩
  | z :: xs, x => by
    have ⟨h1, h2⟩ := mx_le xs (max x z)
    have e : mx x (z :: xs) = mx (max x z) xs := rfl
    rw [e]
    refine ⟨by omega, fun y hy => ?_⟩
    rcases List.mem_cons.mp hy with q | q
    · rw [q]; omega
    · exact h2 y q
theorem mx_mem : ∀ (xs : List Int) (x : Int), mx x xs ∈ x :: xs
  | [], x => by simp [mx]
  | z :: xs, x => by
    have h := mx_mem xs (max x z)
    have e : mx x (z :: xs) = mx (max x z) xs := rfl
    rw [e]
    rcases List.mem_cons.mp h with q | q
    · rw [q]
      by_cases g : x ≤ z
      · rw [Int.max_eq_right g]; simp
      · rw [Int.max_eq_left (by omega)]; simp
    · exact List.mem_cons_of_mem _ (List.mem_cons_of_mem _ q)
section
variable {l : List Int}
theorem mnL_le {x : Int} (h : x ∈ l) : mnL l ≤ x := by
  cases l with
  | nil => cases h
  | cons y l =>
    rcases List.mem_cons.mp h with rfl | h
    · exact (mn_le l x).1
    · exact (mn_le l y).2 x h
theorem mnL_mem (h : l ≠ []) : mnL l ∈ l := by
  cases l with
  | nil => exact absurd rfl h
  | cons y l => exact mn_mem l y
theorem mxL_le {x : Int} (h : x ∈ l) : x ≤ mxL l := by
  cases l with
  | nil => cases h
  | cons y l =>
    rcases List.mem_cons.mp h with rfl | h
    · exact (mx_le l x).1
    · exact (mx_le l y).2 x h
theorem mxL_mem (h : l ≠ []) : mxL l ∈ l := by
  cases l with
  | nil => exact absurd rfl h
  | cons y l => exact mx_mem l y
theorem mnL_eq {x : Int} (h : x ∈ l) (hx : ∀ y ∈ l, x ≤ y) : mnL l = x := by
  have h1 := mnL_le h
  have h2 := hx _ (mnL_mem (by rintro rfl; cases h))
  omega
theorem mxL_eq {x : Int} (h : x ∈ l) (hx : ∀ y ∈ l, y ≤ x) : mxL l = x := by
  have h1 := mxL_le h
  have h2 := hx _ (mxL_mem (by rintro rfl; cases h))
  omega
theorem minD_l (h : l ≠ []) : minD' (lN l) = some (.int (mnL l)) := by
  cases l with
  | nil => exact absurd rfl h
  | cons y l => exact minD_ints y l
theorem maxD_l (h : l ≠ []) : maxD' (lN l) = some (.int (mxL l)) := by
  cases l with
  | nil => exact absurd rfl h
  | cons y l => exact maxD_ints y l
theorem minD_t (h : l ≠ []) : minD' (tN l) = some (.int (mnL l)) := (minD_l h : _)
theorem maxD_t (h : l ≠ []) : maxD' (tN l) = some (.int (mxL l)) := (maxD_l h : _)
theorem minD_f {α : Type} {xs : List α} {f : α → Int} (h : xs ≠ []) : minD' (.lst (xs.map fun x => .int (f x))) = some (.int (mnL (xs.map f))) := by
  have := minD_l (l := xs.map f) (by simpa using h)
  rw [← this]
  simp [lN, Function.comp_def]
theorem maxD_f {α : Type} {xs : List α} {f : α → Int} (h : xs ≠ []) : maxD' (.lst (xs.map fun x => .int (f x))) = some (.int (mxL (xs.map f))) := by
  have := maxD_l (l := xs.map f) (by simpa using h)
  rw [← this]
  simp [lN, Function.comp_def]
end
/-! ### lists that are gathered -/
theorem ev_ifApp {t : Tx} {m : Ex} {i : Nat} {b : Bool} {x : D} {xs : List D} {env : En} {st st1 : Store} (h : t env st = .ok b st1) (h0 : env i = some (true, .lst xs)) (h1 : b = true → m env st1 = .ok x st1) (hl : xs.length < 100000) :
    sIf t (sApp i m) sNil env st = .ok (.nx (env.put i true (.lst (xs ++ if b = true then [x] else [])))) st1 := by
  cases b with
  | true =>
    rw [sIf_eq h, if_pos rfl]
    exact ev_app h0 (h1 rfl) hl
  | false =>
    rw [sIf_no h, if_neg Bool.false_ne_true, List.append_nil, put_same' h0]
theorem filt_if {α : Type} {b : α → Bool} {f : α → D} : ∀ xs : List α, (xs.flatMap fun o => if b o = true then [f o] else []) = (xs.filter b).map f
  | [] => rfl
  | x :: xs => by
    rw [List.flatMap_cons, filt_if xs, List.filter_cons]
    cases b x <;> simp
theorem flat_le {α β : Type} {g : α → List β} {c : Nat} {xs : List α} (h : ∀ x ∈ xs, (g x).length ≤ c) : (xs.flatMap g).length ≤ c * xs.length := by
  induction xs with
  | nil => simp
  | cons x xs ih =>
    rw [List.flatMap_cons, List.length_append, List.length_cons, Nat.mul_succ]
    have := h x (by simp)
    have := ih fun y hy => h y (by simp [hy])
    omega
theorem ix_tI {l : List Int} {j : Nat} {x : Int} {st : Store} (h : l[j]? = some x) : ixD (tN l) (.int (j : Nat)) st = .ok (.int x) st := ix_tup (f := .int) h
theorem getD_some {α : Type} {l : List α} {j : Nat} {d : α} (h : j < l.length) : l[j]? = some (l.getD j d) := by
  rw [List.getD_eq_getElem?_getD, List.getElem?_eq_getElem h]
  rfl
/-! ### a loop that raises -/
theorem forS_exc {g : Gx} {b : Sx} {st : Store} {c : Str} {bad : D} {post : List D} (I : En → Prop) (hb : ∀ e, I e → ∃ e1, g bad e = some e1 ∧ b e1 st = .exc c [] st) :
    ∀ (pre : List D) (env : En), I env → (∀ d ∈ pre, ∀ e, I e → ∃ e1 e2, g d e = some e1 ∧ b e1 st = .ok (.nx e2) st ∧ I e2) → forS g b (pre ++ bad :: post) env st = .exc c [] st
  | [], env, h0, _ => by
    obtain ⟨e1, h1, h2⟩ := hb env h0
    show forS g b (bad :: post) env st = _
    unfold forS
    simp only [h1]
    exact xc_bnd h2
  | d :: pre, env, h0, hs => by
    obtain ⟨e1, e2, h1, h2, h3⟩ := hs d (by simp) env h0
    show forS g b (d :: (pre ++ bad :: post)) env st = _
    unfold forS
    simp only [h1]
    rw [bnd_eq h2]
    exact forS_exc I hb pre e2 h3 fun x hx => hs x (by simp [hx])
theorem for_exc {it : Lx} {g : Gx} {b : Sx} {env : En} {st : Store} {c : Str} {pre : List D} {bad : D} {post : List D} (I : En → Prop) (hi : it env st = .ok (pre ++ bad :: post) st) (h0 : I env)
    (hs : ∀ d ∈ pre, ∀ e, I e → ∃ e1 e2, g d e = some e1 ∧ b e1 st = .ok (.nx e2) st ∧ I e2) (hb : ∀ e, I e → ∃ e1, g bad e = some e1 ∧ b e1 st = .exc c [] st) : sFor it g b env st = .exc c [] st := by
  unfold sFor
  rw [bnd_eq hi]
  exact forS_exc I hb pre env h0 hs
/-! ### deep things -/
inductive Dq : Nat → D → Prop
  | non : Dq 0 .non
  | qm : Dq 0 (.str "?")
  | yes : Dq 0 (.bl true)
  | tup {k : Nat} {d : D} : Dq k d → Dq (k + 1) (.tup [d])
  | lst {k : Nat} {d : D} : Dq k d → Dq (k + 1) (.lst [d])
  | dct {k : Nat} {d : D} : Dq k d → Dq (k + 1) (.dct [(.int 0, d)])
theorem word_q : wrd (.str "?") = true := by decide +kernel
theorem Dq.rw {k : Nat} {d : D} (h : Dq k d) : Rw k (20 + 30 * k) d := by
  induction h with
  | non => exact rw_non
  | qm => exact rw_str word_q (by decide +kernel)
  | yes => exact rw_bl
  | @tup k d h ih => exact (rw_tup (xs := [d]) (by simp only [List.mem_singleton]; rintro x rfl; exact ih)).up (Nat.le_refl _) (by simp; omega)
  | @lst k d h ih => exact (rw_lst (xs := [d]) (by simp only [List.mem_singleton]; rintro x rfl; exact ih)).up (Nat.le_refl _) (by simp; omega)
  | @dct k d h ih => exact ⟨by rw [wrd_dct1, ih.w, wrd_int]; rfl, by simp [dat, datK, ih.t], by simp [smI, smIK, ih.s], by have := ih.l; simp only [wt, wtK]; omega⟩
theorem Dq.no_int {k : Nat} {d : D} (h : Dq k d) : d.isInt = false := by cases h <;> rfl
def cDeep2 (c0 : Int) : Sx := (sSeq (sSet 1 (eFn (fAny c0) (lCons (eVar 0) (lCons (eLst (lCons (eC .non) (lCons (eC (.str "?")) (lCons (eC (.bl true)) lNil)))) lNil)))) (sSeq (sFor (iRng1S (eBin (pur addA) (eC (.int 5)) (eFn (dr2F c0) (lCons (eVar 0) (lCons (eC (.int 25)) lNil))))) (gNm 2) (sSet 1 (eBin ixD (eLst (lCons (eTup (lCons (eVar 1) lNil)) (lCons (eLst (lCons (eVar 1) lNil)) (lCons (eDct1 (eC (.int 0)) (eVar 1)) lNil)))) (eFn (dr2F c0) (lCons (eVar 0) (lCons (eC (.int 3)) lNil)))))) (sRet (eVar 1))))
theorem deep2_ok {c0 : Int} {h : List D} (hh : Hok h) : ∃ d k h', callS .froz (cDeep2 c0) [.obj 0] [h] = .ok d [h'] ∧ 5 ≤ k ∧ k < 30 ∧ Dq k d ∧ Hok h' := by
  obtain ⟨d0, h1, a1, a2, a3⟩ := any_dd (c0 := c0) (xs := [.non, .str "?", .bl true]) hh (by simp) (by simp)
  have q0 : Dq 0 d0 := by
    simp only [List.mem_cons, List.not_mem_nil, or_false] at a2
    rcases a2 with rfl | rfl | rfl
    · exact .non
    · exact .qm
    · exact .yes
  obtain ⟨t, h2, b1, b2, b3⟩ := draw_d (c0 := c0) a3 (k := 25) (by omega) (by omega)
  have e5 : (5 : Int) + (t : Int) = ((5 + t : Nat) : Int) := by omega
  obtain ⟨e', s', f1, d, h', rfl, f2, g0, g1, f4⟩ := sFor_run (st := [h1]) (st1 := [h2]) (env := (env0 [.obj 0]).put 1 false d0) (it := iRng1S (eBin (pur addA) (eC (.int 5)) (eFn (dr2F c0) (lCons (eVar 0) (lCons (eC (.int 25)) lNil))))) (g := gNm 2)
    (b := sSet 1 (eBin ixD (eLst (lCons (eTup (lCons (eVar 1) lNil)) (lCons (eLst (lCons (eVar 1) lNil)) (lCons (eDct1 (eC (.int 0)) (eVar 1)) lNil)))) (eFn (dr2F c0) (lCons (eVar 0) (lCons (eC (.int 3)) lNil)))))
    (I := fun i e s => ∃ d h', s = [h'] ∧ Hok h' ∧ e 0 = some (false, .obj 0) ∧ e 1 = some (false, d) ∧ Dq i d) ((rgI 0 (5 + t : Nat)).map .int)
    (ev_iRngI (ev_to (ev_bin eC_eq (ev_fn (by and_intros) b1) addA_int) (by rw [e5])) (by omega)) ⟨d0, h2, rfl, b3, rfl, put_eq, q0⟩ (by
      rintro i x e s hd ⟨d, h', rfl, hk, g0, g1, dp⟩
      obtain ⟨z, h3, c1, c2, c3⟩ := draw_d (c0 := c0) hk (k := 3) (by omega) (by omega)
      have g1' : (e.put 2 false x) 1 = some (false, d) := put_no g1
      have lst : (eLst (lCons (eTup (lCons (eVar 1) lNil)) (lCons (eLst (lCons (eVar 1) lNil)) (lCons (eDct1 (eC (.int 0)) (eVar 1)) lNil)))) (e.put 2 false x) [h'] = .ok (.lst [.tup [d], .lst [d], .dct [(.int 0, d)]]) [h'] := by and_intros
      have z3 : z = 0 ∨ z = 1 ∨ z = 2 := by omega
      rcases z3 with rfl | rfl | rfl
      · exact ⟨_, _, _, rfl, ev_set (ev_ix lst (ev_fn (by and_intros) c1) (by rfl)), _, _, rfl, c3, put_no (put_no g0), put_eq, .tup dp⟩
      · exact ⟨_, _, _, rfl, ev_set (ev_ix lst (ev_fn (by and_intros) c1) (by rfl)), _, _, rfl, c3, put_no (put_no g0), put_eq, .lst dp⟩
      · exact ⟨_, _, _, rfl, ev_set (ev_ix lst (ev_fn (by and_intros) c1) (by rfl)), _, _, rfl, c3, put_no (put_no g0), put_eq, .dct dp⟩)
  rw [List.length_map, rgI_len] at f4
  refine ⟨d, _, h', ?_, ?_, ?_, f4, f2⟩
  · refine ev_call (s := cDeep2 c0) ?_
    unfold cDeep2
    exact ev_seq (ev_set (ev_fn (by and_intros) a1)) (ev_seq f1 (ev_ret (ev_var g1)))
  · omega
  · omega
end Sm


set_option Elab.async false
set_option linter.all false
set_option maxRecDepth 100000
set_option maxHeartbeats 2000000
namespace Lw76
open PySem PySem.Spec L2 Sm
local macro_rules | `(tactic| and_intros) => `(tactic| first
  | (with_reducible apply ev_isE) <;> try and_intros
  | (with_reducible apply ev_count) <;> try and_intros
  | (with_reducible apply ev_idxD) <;> try and_intros
  | (show _ = _; with_reducible assumption)
  | with_reducible exact eC_eq
  | with_reducible exact lNil_eq
  | with_reducible exact ev_pNo
  | with_reducible exact put_eq
  | (with_reducible refine put_no ?_ (by rfl)) <;> and_intros
  | (with_reducible refine clr_no ?_ (by rfl)) <;> and_intros
  | (with_reducible apply ev_var) <;> try and_intros
  | (with_reducible apply ev_varB) <;> try and_intros
  | (with_reducible apply ev_cons) <;> try and_intros
  | (with_reducible apply ev_tV) <;> try and_intros
  | (with_reducible apply ev_bin) <;> try and_intros
  | (with_reducible apply ev_ix) <;> try and_intros
  | (with_reducible apply ev_fn) <;> try and_intros
  | (with_reducible apply ev_g1) <;> try and_intros
  | (with_reducible apply ev_g2) <;> try and_intros
  | (with_reducible apply ev_set) <;> try and_intros
  | (with_reducible apply ev_ret) <;> try and_intros
  | (with_reducible apply ev_own) <;> try and_intros
  | (with_reducible apply ev_drop) <;> try and_intros
  | (with_reducible apply ev_tNot) <;> try and_intros
  | (with_reducible apply ev_tAnd) <;> try and_intros
  | (with_reducible apply ev_tOr) <;> try and_intros
  | (with_reducible apply ev_and) <;> try and_intros
  | (with_reducible apply ev_or) <;> try and_intros
  | (with_reducible apply ev_not) <;> try and_intros
  | (with_reducible apply ev_neg) <;> try and_intros
  | (with_reducible apply ev_if) <;> try and_intros
  | (with_reducible apply ev_chain) <;> try and_intros
  | (with_reducible apply ev_tup) <;> try and_intros
  | (with_reducible apply ev_lst) <;> try and_intros
  | (with_reducible apply ev_isa) <;> try and_intros
  | (with_reducible apply ev_lcM) <;> try and_intros
  | (with_reducible apply ev_lc) <;> try and_intros
  | (with_reducible apply ev_iSeq) <;> try and_intros
  | (with_reducible apply ev_iRng) <;> try and_intros
  | (with_reducible apply ev_iEnum) <;> try and_intros
  | (with_reducible apply ev_iZip) <;> try and_intros
  | (with_reducible apply ev_sl) <;> try and_intros
  | (with_reducible apply ev_pAt) <;> try and_intros
  | (with_reducible apply ev_rev) <;> try and_intros
  | (with_reducible apply ev_dct1) <;> try and_intros
  | (with_reducible apply ev_lenSet) <;> try and_intros
  | (with_reducible apply ev_srtSet) <;> try and_intros
  | (with_reducible apply ev_rgL1) <;> try and_intros
  | (with_reducible apply ev_seqNever) <;> try and_intros
  | (with_reducible apply ev_never) <;> try and_intros
  | (with_reducible apply ev_seqIfSet) <;> try and_intros
  | (with_reducible apply ev_ifRet) <;> try and_intros
  | (with_reducible apply ev_ifElse) <;> try and_intros
  | (with_reducible apply ev_seq) <;> try and_intros
  | (with_reducible apply ev_frz) <;> try and_intros
  | (with_reducible apply ev_frzNo) <;> try and_intros
  | (with_reducible apply ev_par) <;> try and_intros
  | (with_reducible apply ev_par2) <;> try and_intros
  | (with_reducible apply ev_par3) <;> try and_intros
  | (with_reducible apply ev_asg) <;> try and_intros
  | (with_reducible apply ev_app) <;> try and_intros
  | (with_reducible apply ev_ext) <;> try and_intros
  | with_reducible exact addA_int
  | with_reducible exact subD_int
  | with_reducible exact eqD_int
  | with_reducible exact neD_int
  | with_reducible exact ltD_int
  | with_reducible exact leD_int
  | with_reducible exact gtD_int
  | with_reducible exact geD_int
  | with_reducible exact eqD_str
  | with_reducible exact neD_str
  | with_reducible exact lenD_tup'
  | with_reducible exact lenD_lst'
  | with_reducible exact lenD_tup
  | with_reducible exact lenD_lst
  | with_reducible exact tupD_lst
  | with_reducible exact tupD_tup
  | with_reducible exact listD_lst
  | with_reducible exact listD_tup
  | with_reducible exact intD_int
  | with_reducible exact intD_bl
  | with_reducible exact absD_int
  | with_reducible exact allD_p _ _
  | with_reducible exact anyD_p _ _
  | with_reducible exact revD_tup'
  | with_reducible exact revD_lst'
  | with_reducible exact slA_tup'
  | with_reducible exact slA_lst'
  | with_reducible exact sumD_f
  | with_reducible exact inD_ints
  | with_reducible exact inD_intsL
  | with_reducible exact ninD_ints
  | with_reducible exact ninD_intsL
  | with_reducible exact repI
  | (with_reducible apply modD_int) <;> omega
  | (with_reducible apply mulS_l) <;> omega
  | (with_reducible apply mulS_r) <;> omega
  | (with_reducible apply add_tup) <;> try and_intros
  | (with_reducible apply add_lst) <;> try and_intros
  | (with_reducible apply ix_tup) <;> try and_intros
  | (with_reducible apply ix_lst) <;> try and_intros
  | (with_reducible apply ix_tup0) <;> try and_intros
  | (with_reducible apply ix_lst0) <;> try and_intros
  | (with_reducible apply ix_tupL) <;> try and_intros
  | (with_reducible apply ix_lstL) <;> try and_intros
  | (with_reducible apply ev_isOp) <;> try and_intros
  | (with_reducible apply ev_isntOp) <;> try and_intros
  | (with_reducible apply eqD_gen) <;> try and_intros
  | (with_reducible apply neD_gen) <;> try and_intros
  | (show _ ≠ _; first | omega | (simp only [decide_eq_false_iff_not, decide_eq_true_eq] at *; omega) | (simp_all; done) | (simp_all; omega) | skip)
  | (refine fun x hx => ⟨_, rfl, ?_, fun hp => ?_⟩) <;> try and_intros
  | (refine fun x hx => ⟨_, rfl, ?_⟩) <;> try and_intros
  | (with_reducible refine fun (_ : _ = _) => ?_) <;> try and_intros
  | rfl
  | omega
  | (simp only [decide_eq_false_iff_not, decide_eq_true_eq] at *; omega)
  | (simp; done)
  | (simp; omega)
  | (simp_all; done)
  | (simp_all; omega))
noncomputable section
def top (i : Nat) : Stmt := PySem.Challenge.pw_fewclues_k76_whole_games_sure_or_mixed.main.body.getD i (.Pass ⟨0, 0, 0, 0⟩)
def mkD (x : Str) (i : Nat) : He.DefD := ⟨(x, none), x, x, defArgs (top i), defBody (top i), defScope (top i), [], []⟩
def fn : List He.DefD := ([mkD "is_integer" 1, mkD "is_within" 2, mkD "is_tuple" 3, mkD "check_game" 10, mkD "sure_places" 11, mkD "sure_or_mixed" 12, mkD "is_sure_or_mixed" 13, mkD "floor_of" 14, mkD "ceiling_of" 15, mkD "is_worse" 16, mkD "worse_rows" 17, mkD "turned_game" 18, mkD "_law_hand" 20, mkD "_law_draw" 21, mkD "_law_any" 22, mkD "_law_game" 23, mkD "_law_sure" 24, mkD "_law_is_told" 25, mkD "_law_deep" 26, mkD "_law_word" 27] : List He.DefD) ++ ([mkD "_law_judged_word" 28, mkD "_law_is_worse" 29, mkD "_law_are_refused" 30, mkD "_law_is_right" 31, mkD "_law_tops" 32, mkD "law" 33] : List He.DefD)
def fa : List He.Fa := ([.glo "is_integer", .glo "is_within", .glo "is_tuple", .glo "check_game", .glo "sure_places", .glo "sure_or_mixed", .glo "is_sure_or_mixed", .glo "floor_of", .glo "ceiling_of", .glo "is_worse", .glo "worse_rows", .glo "turned_game", .glo "_law_hand", .glo "_law_draw", .glo "_law_any", .glo "_law_game", .glo "_law_sure", .glo "_law_is_told", .glo "_law_deep", .glo "_law_word"] : List He.Fa) ++ ([.glo "_law_judged_word", .glo "_law_is_worse", .glo "_law_are_refused", .glo "_law_is_right", .glo "_law_tops", .glo "law", .free "ValueError", .free "abs", .free "all", .free "any", .free "bool", .free "enumerate", .free "int", .free "isinstance", .free "len", .free "list", .free "max", .free "min", .free "range", .free "repr"] : List He.Fa) ++ ([.free "sorted", .free "str", .free "super", .free "tuple", .free "zip", .int "MOST" (3), .int "FARTHEST" (20)] : List He.Fa)
def ini (s : Stmt) : Stmt := match s with
  | .ClassDef _ _ _ b _ _ _ _ _ _ _ => b.getD 0 (.Pass ⟨0, 0, 0, 0⟩)
  | s => s
def c_NoGame : ClsD := ⟨"NoGame", "NoGame.__init__", defArgs (ini (top 6)), defBody (ini (top 6)), defScope (ini (top 6))⟩
theorem xt_NoGame : SupT c_NoGame.qual c_NoGame.params c_NoGame.body c_NoGame.scope := ⟨by kernel_rfl, by kernel_rfl, by kernel_rfl, by kernel_rfl, by kernel_rfl, by kernel_rfl, by decide +kernel, ⟨_, rfl, rfl⟩, fun _ _ _ _ _ _ _ _ => rfl, ⟨_, _, _, _, _, rfl, fun _ _ _ _ => ⟨rfl, rfl, _, rfl⟩⟩⟩
def cls : List ClsD := [c_NoGame]
def tf : List He.Defn := []
section
variable {P : Program} {w : World} {K : PySem.W.Frag} {mg : Str → Option Value} {base : Heap} {T : List (Addr × Str)}
def M_is_integer : Sx := (sRet (eAnd (eIsa PyData.isInt (eVar 0)) (eNot (eIsa PyData.isBool (eVar 0)))))
def F_is_integer : Fx := callS .froz M_is_integer
theorem p_is_integer (S : SaysE P fa fn cls "ClueError" tf K mg base T) : Prm P w K mg base T 1 "is_integer" ["thing"] .froz F_is_integer := by
  refine prm_of (N := ["thing"]) (m := M_is_integer) S.s 0 0 (d := mkD "is_integer" 1) (by kernel_rfl) (by kernel_rfl) rfl rfl rfl ⟨by kernel_rfl, by kernel_rfl, by kernel_rfl, by decide +kernel, by kernel_rfl, by decide +kernel, by decide +kernel⟩ (fun _ _ _ _ _ _ us hl => match us, hl with | [_], _ => rfl) fun f cd A outer s W E hT G hp => ?_
  subst hT
  exact (ss_one (ss_retF (se_and (se_isa isa_int G.sys (gl_of (by kernel_rfl)) (S.no 33 (by kernel_rfl)) (gl_of (by kernel_rfl)) (S.no 32 (by kernel_rfl)) (by kernel_rfl) (se_var (i := 0) (by kernel_rfl) (.inl (by kernel_rfl)))) (se_one (se_not (se_isa isa_bool G.sys (gl_of (by kernel_rfl)) (S.no 33 (by kernel_rfl)) (gl_of (by kernel_rfl)) (S.no 30 (by kernel_rfl)) (by kernel_rfl) (se_var (i := 0) (by kernel_rfl) (.inl (by kernel_rfl)))))))))
def M_is_tuple : Sx := (sRet (eAnd (eIsa PyData.isTuple (eVar 0)) (eChain (pur leD) (pur leD) (eVar 1) (eFn (g1 fun d => lift (lenD d)) (lCons (eVar 0) lNil)) (eVar 2))))
def F_is_tuple : Fx := callS .froz M_is_tuple
theorem p_is_tuple (S : SaysE P fa fn cls "ClueError" tf K mg base T) : Prm P w K mg base T 1 "is_tuple" ["thing", "least", "most"] .froz F_is_tuple := by
  refine prm_of (N := ["thing", "least", "most"]) (m := M_is_tuple) S.s 2 2 (d := mkD "is_tuple" 3) (by kernel_rfl) (by kernel_rfl) rfl rfl rfl ⟨by kernel_rfl, by kernel_rfl, by kernel_rfl, by decide +kernel, by kernel_rfl, by decide +kernel, by decide +kernel⟩ (fun _ _ _ _ _ _ us hl => match us, hl with | [_, _, _], _ => rfl) fun f cd A outer s W E hT G hp => ?_
  subst hT
  exact (ss_one (ss_retF (se_and (se_isa isa_tuple G.sys (gl_of (by kernel_rfl)) (S.no 33 (by kernel_rfl)) (gl_of (by kernel_rfl)) (S.no 43 (by kernel_rfl)) (by kernel_rfl) (se_var (i := 0) (by kernel_rfl) (.inl (by kernel_rfl)))) (se_one (se_chain (sop_le G.sys G.un) (sop_le G.sys G.un) (se_var (i := 1) (by kernel_rfl) (.inl (by kernel_rfl))) (se_fnB sf_len (gl_of (by kernel_rfl)) (S.no 34 (by kernel_rfl)) (by kernel_rfl) (sb_cons (se_var (i := 0) (by kernel_rfl) (.inl (by kernel_rfl))) sb_nil)) (se_var (i := 2) (by kernel_rfl) (.inl (by kernel_rfl))))))))
def M_sure_places : Sx := (sSeq (sOwn 1 (eLst lNil)) (sSeq (sFor (iEnumS (eVar 0)) (gTp (gCs (gNm 2) (gCs (gNm 3) gNl))) (sSeq (sSet 4 (eLc [5, 6, 7] (iEnumS (eVar 3)) (gTp (gCs (gNm 6) (gCs (gNm 7) gNl))) (tV (eBin (pur eqD) (eVar 7) (eFn (g1 fun d => lift (minD' d)) (lCons (eVar 3) lNil)))) (eVar 6))) (sExt 1 (eLc [5, 6] (iSeq (eVar 4)) (gNm 6) (tV (eBin (pur eqD) (eBin ixD (eVar 3) (eVar 6)) (eFn (g1 fun d => lift (maxD' d)) (lCons (eLc [5, 8] (iSeq (eVar 0)) (gNm 8) tYesS (eBin ixD (eVar 8) (eVar 6))) lNil)))) (eTup (lCons (eVar 2) (lCons (eVar 6) lNil))))))) (sFrz 1 (sRet (eVar 1)))))
def F_sure_places : Fx := callS .froz M_sure_places
theorem p_sure_places (S : SaysE P fa fn cls "ClueError" tf K mg base T) : Prm P w K mg base T 1 "sure_places" ["game"] .froz F_sure_places := by
  refine prm_of (N := ["game", "found", "i", "row", "some", ".0", "j", "one", "its"]) (m := M_sure_places) S.s 4 4 (d := mkD "sure_places" 11) (by kernel_rfl) (by kernel_rfl) rfl rfl rfl ⟨by kernel_rfl, by kernel_rfl, by kernel_rfl, by decide +kernel, by kernel_rfl, by decide +kernel, by decide +kernel⟩ (fun _ _ _ _ _ _ us hl => match us, hl with | [_], _ => rfl) fun f cd A outer s W E hT G hp => ?_
  subst hT
  exact (ss_cons (ss_own (i := 1) ⟨(by exact G.nd), (by kernel_rfl), .inl (by kernel_rfl), .inl rfl⟩ (se_lst sa_nil ln_nil)) (ss_cons (ss_for hp G.calm (si_enum (gl_of (by kernel_rfl)) (S.no 31 (by kernel_rfl)) (se_var (i := 0) (by kernel_rfl) (.inr (.inl (by kernel_rfl))))) (sg_tup (n := 2) (by exact G.calm) (sg_cons (sg_nm (i := 2) ⟨(by exact G.nd), (by kernel_rfl), .inr (by kernel_rfl), .inl rfl⟩) (sg_cons (sg_nm (i := 3) ⟨(by exact G.nd), (by kernel_rfl), .inr (by kernel_rfl), .inl rfl⟩) sg_nil)) (gl_len_cons (gl_len_cons gl_len_nil))) (ss_cons (ss_setLc (own := [(".0", 5), ("j", 6), ("one", 7)]) (is := [6, 7]) (i := 4) ⟨(by exact G.nd), (by kernel_rfl), .inl (by kernel_rfl), .inl rfl⟩ (by kernel_rfl) G.calm (by kernel_rfl) (blkOk_by (by kernel_rfl)) (by decide) (si_enum (gl_of (by kernel_rfl)) (S.no 31 (by kernel_rfl)) (se_var (i := 3) (by kernel_rfl) (.inr (.inl (by kernel_rfl))))) (fun _ _ _ _ _ => (sg_tup (n := 2) (by exact G.calm) (sg_cons (sg_nm (i := 6) ⟨(by exact G.nd), (by kernel_rfl), .inl (by kernel_rfl), .inr (by kernel_rfl)⟩) (sg_cons (sg_nm (i := 7) ⟨(by exact G.nd), (by kernel_rfl), .inl (by kernel_rfl), .inr (by kernel_rfl)⟩) sg_nil)) (gl_len_cons (gl_len_cons gl_len_nil)))) (fun _ _ _ _ _ => (sts_one (st_cmp (sop_eq G.sys G.un) (se_var (i := 7) (by kernel_rfl) (.inl (by kernel_rfl))) (se_fnB (sf_min G.calm G.sys G.un) (gl_of (by kernel_rfl)) (S.no 37 (by kernel_rfl)) (by kernel_rfl) (sb_cons (se_var (i := 3) (by kernel_rfl) (.inr (.inl (by kernel_rfl)))) sb_nil)) (nomark _)))) (fun _ _ _ _ _ => (se_var (i := 6) (by kernel_rfl) (.inl (by kernel_rfl))))) (ss_one (ss_ext (i := 1) ⟨(by exact G.nd), (by kernel_rfl), .inl (by kernel_rfl), .inl rfl⟩ (.inl (by kernel_rfl)) (se_lc (own := [(".0", 5), ("j", 6)]) (is := [6]) G.calm G.nd (blkOk_by (by kernel_rfl)) (by decide) (si_seq (se_var (i := 4) (by kernel_rfl) (.inl (by kernel_rfl)))) (fun _ _ _ _ _ => (sg_nm (i := 6) ⟨(by exact G.nd), (by kernel_rfl), .inr (by kernel_rfl), .inl (by kernel_rfl)⟩)) (fun _ _ _ _ _ => (sts_one (st_cmp (sop_eq G.sys G.un) (se_ix (se_var (i := 3) (by kernel_rfl) (.inr (.inl (by kernel_rfl)))) (se_var (i := 6) (by kernel_rfl) (.inr (.inl (by kernel_rfl)))) (fun _ _ => rfl)) (se_fnB (sf_max G.calm G.sys G.un) (gl_of (by kernel_rfl)) (S.no 36 (by kernel_rfl)) (by kernel_rfl) (sb_cons (se_lc (own := [(".0", 5), ("its", 8)]) (is := [8]) G.calm G.nd (blkOk_by (by kernel_rfl)) (by decide) (si_seq (se_var (i := 0) (by kernel_rfl) (.inr (.inl (by kernel_rfl))))) (fun _ _ _ _ _ => (sg_nm (i := 8) ⟨(by exact G.nd), (by kernel_rfl), .inl (by kernel_rfl), .inr (by kernel_rfl)⟩)) (fun _ _ _ _ _ => sts_nil) (fun _ _ _ _ _ => (se_ix (se_var (i := 8) (by kernel_rfl) (.inl (by kernel_rfl))) (se_var (i := 6) (by kernel_rfl) (.inr (.inl (by kernel_rfl)))) (fun _ _ => rfl)))) sb_nil)) (nomark _)))) (fun _ _ _ _ _ => (se_tup (sa_cons (se_var (i := 2) (by kernel_rfl) (.inr (.inl (by kernel_rfl)))) (sa_cons (se_var (i := 6) (by kernel_rfl) (.inr (.inl (by kernel_rfl)))) sa_nil)) (ln_cons (ln_cons ln_nil))))))))) (ss_frzs (i := 1) (ss_one (ss_retF (se_var (i := 1) (by kernel_rfl) (.inl (by kernel_rfl))))))))
def M_is_worse : Sx := (sRet (eAnd (eFn (g1 fun d => lift (allD d)) (lCons (eLc [2, 3, 4] (iZipS (eVar 0) (eVar 1)) (gTp (gCs (gNm 3) (gCs (gNm 4) gNl))) tYesS (eBin (pur leD) (eVar 3) (eVar 4))) lNil)) (eBin (pur neD) (eVar 0) (eVar 1))))
def F_is_worse : Fx := callS .froz M_is_worse
theorem p_is_worse (S : SaysE P fa fn cls "ClueError" tf K mg base T) : Prm P w K mg base T 1 "is_worse" ["one", "other"] .froz F_is_worse := by
  refine prm_of (N := ["one", "other", ".0", "a", "b"]) (m := M_is_worse) S.s 9 9 (d := mkD "is_worse" 16) (by kernel_rfl) (by kernel_rfl) rfl rfl rfl ⟨by kernel_rfl, by kernel_rfl, by kernel_rfl, by decide +kernel, by kernel_rfl, by decide +kernel, by decide +kernel⟩ (fun _ _ _ _ _ _ us hl => match us, hl with | [_, _], _ => rfl) fun f cd A outer s W E hT G hp => ?_
  subst hT
  exact (ss_one (ss_retF (se_and (se_fnB (sf_all G.calm G.sys) (gl_of (by kernel_rfl)) (S.no 28 (by kernel_rfl)) (by kernel_rfl) (sb_cons (se_lc (own := [(".0", 2), ("a", 3), ("b", 4)]) (is := [3, 4]) G.calm G.nd (blkOk_by (by kernel_rfl)) (by decide) (si_zip (gl_of (by kernel_rfl)) (S.no 44 (by kernel_rfl)) (se_var (i := 0) (by kernel_rfl) (.inl (by kernel_rfl))) (se_var (i := 1) (by kernel_rfl) (.inl (by kernel_rfl)))) (fun _ _ _ _ _ => (sg_tup (n := 2) (by exact G.calm) (sg_cons (sg_nm (i := 3) ⟨(by exact G.nd), (by kernel_rfl), .inl (by kernel_rfl), .inr (by kernel_rfl)⟩) (sg_cons (sg_nm (i := 4) ⟨(by exact G.nd), (by kernel_rfl), .inl (by kernel_rfl), .inr (by kernel_rfl)⟩) sg_nil)) (gl_len_cons (gl_len_cons gl_len_nil)))) (fun _ _ _ _ _ => sts_nil) (fun _ _ _ _ _ => (se_cmp (sop_le G.sys G.un) (se_var (i := 3) (by kernel_rfl) (.inl (by kernel_rfl))) (se_var (i := 4) (by kernel_rfl) (.inl (by kernel_rfl))) (nomark _)))) sb_nil)) (se_one (se_cmp (sop_ne G.sys G.un) (se_var (i := 0) (by kernel_rfl) (.inl (by kernel_rfl))) (se_var (i := 1) (by kernel_rfl) (.inl (by kernel_rfl))) (nomark _))))))
def M__law_hand : Sx := (sSeq (sSet 1 (eLc [2, 3] (iSeq (eSl slA (eVar 0) pNo (pAt (eC (.int 63))))) (gNm 3) tYesS (eBin (pur modD) (eFn (g1 fun d => lift (intD d)) (lCons (eFn (g1 fun d => lift (absD d)) (lCons (eFn (g1 fun d => lift (intD d)) (lCons (eVar 3) lNil)) lNil)) lNil)) (eBin (pur powD) (eC (.int 10)) (eC (.int 36)))))) (sRet (eLst (lCons (eVar 1) (lCons (eC (.int 0)) (lCons (eC (.int 0)) (lCons (eBin (pur addA) (eC (.int 76)) (eBin (pur mulA) (eC (.int 11)) (eFn (g1 fun d => lift (lenD d)) (lCons (eVar 1) lNil)))) (lCons (eC (.int 0)) lNil))))))))
def F__law_hand : Fx := callS .fresh M__law_hand
theorem p__law_hand (S : SaysE P fa fn cls "ClueError" tf K mg base T) : Prm P w K mg base T 1 "_law_hand" ["script"] .fresh F__law_hand := by
  refine prm_of (N := ["script", "cells", ".0", "cell"]) (m := M__law_hand) S.s 12 12 (d := mkD "_law_hand" 20) (by kernel_rfl) (by kernel_rfl) rfl rfl rfl ⟨by kernel_rfl, by kernel_rfl, by kernel_rfl, by decide +kernel, by kernel_rfl, by decide +kernel, by decide +kernel⟩ (fun _ _ _ _ _ _ us hl => match us, hl with | [_], _ => rfl) fun f cd A outer s W E hT G hp => ?_
  subst hT
  exact (ss_cons (ss_setLc (own := [(".0", 2), ("cell", 3)]) (is := [3]) (i := 1) ⟨(by exact G.nd), (by kernel_rfl), .inl (by kernel_rfl), .inl rfl⟩ (by kernel_rfl) G.calm (by kernel_rfl) (blkOk_by (by kernel_rfl)) (by decide) (si_seq (se_slA (se_var (i := 0) (by kernel_rfl) (.inl (by kernel_rfl))) so_no (so_at se_int))) (fun _ _ _ _ _ => (sg_nm (i := 3) ⟨(by exact G.nd), (by kernel_rfl), .inl (by kernel_rfl), .inr (by kernel_rfl)⟩)) (fun _ _ _ _ _ => sts_nil) (fun _ _ _ _ _ => (se_bin sop_mod (se_fnT sf_int (gl_of (by kernel_rfl)) (S.no 32 (by kernel_rfl)) (by kernel_rfl) (sb_cons (se_fnB sf_abs (gl_of (by kernel_rfl)) (S.no 27 (by kernel_rfl)) (by kernel_rfl) (sb_cons (se_fnT sf_int (gl_of (by kernel_rfl)) (S.no 32 (by kernel_rfl)) (by kernel_rfl) (sb_cons (se_var (i := 3) (by kernel_rfl) (.inl (by kernel_rfl))) sb_nil)) sb_nil)) sb_nil)) (se_bin sop_pow se_int se_int)))) (ss_one (ss_retN (se_lst (sa_cons (se_var (i := 1) (by kernel_rfl) (.inl (by kernel_rfl))) (sa_cons se_int (sa_cons se_int (sa_cons (se_bin sop_addA se_int (se_bin sop_mulA se_int (se_fnB sf_len (gl_of (by kernel_rfl)) (S.no 34 (by kernel_rfl)) (by kernel_rfl) (sb_cons (se_var (i := 1) (by kernel_rfl) (.inl (by kernel_rfl))) sb_nil)))) (sa_cons se_int sa_nil))))) (ln_cons (ln_cons (ln_cons (ln_cons (ln_cons ln_nil)))))))))
def M__law_draw : Sx := (sSeq (sIf (tAnd' (tV (eBin (pur eqD) (eBin ixD (eVar 0) (eC (.int 2))) (eC (.int 0)))) (tV (eBin (pur ltD) (eBin ixD (eVar 0) (eC (.int 1))) (eFn (g1 fun d => lift (lenD d)) (lCons (eBin ixD (eVar 0) (eC (.int 0))) lNil))))) (sSeq (sSet 2 (eBin ixD (eBin ixD (eVar 0) (eC (.int 0))) (eBin ixD (eVar 0) (eC (.int 1))))) (sSeq (sSetAt 0 (eC (.int 1)) (eBin (pur addA) (eBin ixD (eVar 0) (eC (.int 1))) (eC (.int 1)))) (sSeq (sSetAt 0 (eC (.int 3)) (eBin (pur modD) (eFn (g1 fun d => lift (intD d)) (lCons (eBin (pur addA) (eBin (pur addA) (eBin (pur mulA) (eBin ixD (eVar 0) (eC (.int 3))) (eC (.int 69621))) (eBin (pur mulA) (eVar 2) (eC (.int 48271)))) (eC (.int 97))) lNil)) (eC (.int 2147483629)))) (sIf (tV (eBin (pur geD) (eVar 2) (eBin (pur powD) (eC (.int 10)) (eC (.int 18))))) (sSetAt 0 (eC (.int 2)) (eVar 2)) sNil)))) sNil) (sSeq (sIf (tV (eBin (pur gtD) (eBin ixD (eVar 0) (eC (.int 2))) (eC (.int 0)))) (sSeq (sSet 3 (eBin (pur modD) (eFn (g1 fun d => lift (intD d)) (lCons (eBin ixD (eVar 0) (eC (.int 2))) lNil)) (eVar 1))) (sSeq (sSetAt 0 (eC (.int 2)) (eBin (pur fdivD) (eBin ixD (eVar 0) (eC (.int 2))) (eVar 1))) (sRet (eVar 3)))) sNil) (sSeq (sSetAt 0 (eC (.int 4)) (eBin (pur addA) (eBin ixD (eVar 0) (eC (.int 4))) (eC (.int 1)))) (sSeq (sSet 4 (eBin (pur modD) (eFn (g1 fun d => lift (intD d)) (lCons (eBin (pur mulA) (eFn (g1 fun d => lift (intD d)) (lCons (eBin (pur addA) (eBin ixD (eVar 0) (eC (.int 3))) (eBin (pur mulA) (eC (.int 7919)) (eBin ixD (eVar 0) (eC (.int 4))))) lNil)) (eC (.int 40692))) lNil)) (eC (.int 2147483647)))) (sSeq (sSet 4 (eBin (pur modD) (eFn (g1 fun d => lift (intD d)) (lCons (eBin (pur mulA) (eVar 4) (eBin (pur addA) (eBin (pur fdivD) (eVar 4) (eC (.int 1009))) (eC (.int 69621)))) lNil)) (eC (.int 2147483647)))) (sSeq (sSet 4 (eBin (pur modD) (eFn (g1 fun d => lift (intD d)) (lCons (eBin (pur mulA) (eVar 4) (eBin (pur addA) (eBin (pur fdivD) (eVar 4) (eC (.int 2003))) (eC (.int 40014)))) lNil)) (eC (.int 2147483563)))) (sRet (eBin (pur modD) (eFn (g1 fun d => lift (intD d)) (lCons (eBin (pur fdivD) (eVar 4) (eC (.int 16))) lNil)) (eVar 1)))))))))
def F__law_draw : Fx := callS .froz M__law_draw
theorem p__law_draw (S : SaysE P fa fn cls "ClueError" tf K mg base T) : Prm P w K mg base T 1 "_law_draw" ["hand", "many"] .froz F__law_draw := by
  refine prm_of (N := ["hand", "many", "cell", "digit", "number"]) (m := M__law_draw) S.s 13 13 (d := mkD "_law_draw" 21) (by kernel_rfl) (by kernel_rfl) rfl rfl rfl ⟨by kernel_rfl, by kernel_rfl, by kernel_rfl, by decide +kernel, by kernel_rfl, by decide +kernel, by decide +kernel⟩ (fun _ _ _ _ _ _ us hl => match us, hl with | [_, _], _ => rfl) fun f cd A outer s W E hT G hp => ?_
  subst hT
  exact (ss_cons (ss_if (SW.st (sw_and (st_cmp (sop_eq G.sys G.un) (se_ix (se_var (i := 0) (by kernel_rfl) (.inl (by kernel_rfl))) se_int (fun _ _ => rfl)) se_int (nomark _)) (sw_and1 (st_cmp (sop_lt G.sys G.un) (se_ix (se_var (i := 0) (by kernel_rfl) (.inl (by kernel_rfl))) se_int (fun _ _ => rfl)) (se_fnB sf_len (gl_of (by kernel_rfl)) (S.no 34 (by kernel_rfl)) (by kernel_rfl) (sb_cons (se_ix (se_var (i := 0) (by kernel_rfl) (.inl (by kernel_rfl))) se_int (fun _ _ => rfl)) sb_nil)) (nomark _))))) (ss_cons (ss_set (i := 2) ⟨(by exact G.nd), (by kernel_rfl), .inl (by kernel_rfl), .inl rfl⟩ (se_ix (se_ix (se_var (i := 0) (by kernel_rfl) (.inl (by kernel_rfl))) se_int (fun _ _ => rfl)) (se_ix (se_var (i := 0) (by kernel_rfl) (.inl (by kernel_rfl))) se_int (fun _ _ => rfl)) (fun _ _ => rfl))) (ss_cons (ss_setAt (i := 0) ⟨(by exact G.nd), (by kernel_rfl), .inl (by kernel_rfl), .inl rfl⟩ (.inl (by kernel_rfl)) (se_bin sop_addA (se_ix (se_var (i := 0) (by kernel_rfl) (.inl (by kernel_rfl))) se_int (fun _ _ => rfl)) se_int) se_int) (ss_cons (ss_setAt (i := 0) ⟨(by exact G.nd), (by kernel_rfl), .inl (by kernel_rfl), .inl rfl⟩ (.inl (by kernel_rfl)) (se_bin sop_mod (se_fnT sf_int (gl_of (by kernel_rfl)) (S.no 32 (by kernel_rfl)) (by kernel_rfl) (sb_cons (se_bin sop_addA (se_bin sop_addA (se_bin sop_mulA (se_ix (se_var (i := 0) (by kernel_rfl) (.inl (by kernel_rfl))) se_int (fun _ _ => rfl)) se_int) (se_bin sop_mulA (se_var (i := 2) (by kernel_rfl) (.inl (by kernel_rfl))) se_int)) se_int) sb_nil)) se_int) se_int) (ss_one (ss_if (st_cmp (sop_ge G.sys G.un) (se_var (i := 2) (by kernel_rfl) (.inl (by kernel_rfl))) (se_bin sop_pow se_int se_int) (nomark _)) (ss_one (ss_setAt (i := 0) ⟨(by exact G.nd), (by kernel_rfl), .inl (by kernel_rfl), .inl rfl⟩ (.inl (by kernel_rfl)) (se_var (i := 2) (by kernel_rfl) (.inl (by kernel_rfl))) se_int)) ss_nil))))) ss_nil) (ss_cons (ss_if (st_cmp (sop_gt G.sys G.un) (se_ix (se_var (i := 0) (by kernel_rfl) (.inl (by kernel_rfl))) se_int (fun _ _ => rfl)) se_int (nomark _)) (ss_cons (ss_set (i := 3) ⟨(by exact G.nd), (by kernel_rfl), .inl (by kernel_rfl), .inl rfl⟩ (se_bin sop_mod (se_fnT sf_int (gl_of (by kernel_rfl)) (S.no 32 (by kernel_rfl)) (by kernel_rfl) (sb_cons (se_ix (se_var (i := 0) (by kernel_rfl) (.inl (by kernel_rfl))) se_int (fun _ _ => rfl)) sb_nil)) (se_var (i := 1) (by kernel_rfl) (.inl (by kernel_rfl))))) (ss_cons (ss_setAt (i := 0) ⟨(by exact G.nd), (by kernel_rfl), .inl (by kernel_rfl), .inl rfl⟩ (.inl (by kernel_rfl)) (se_bin sop_fdiv (se_ix (se_var (i := 0) (by kernel_rfl) (.inl (by kernel_rfl))) se_int (fun _ _ => rfl)) (se_var (i := 1) (by kernel_rfl) (.inl (by kernel_rfl)))) se_int) (ss_one (ss_retF (se_var (i := 3) (by kernel_rfl) (.inl (by kernel_rfl))))))) ss_nil) (ss_cons (ss_setAt (i := 0) ⟨(by exact G.nd), (by kernel_rfl), .inl (by kernel_rfl), .inl rfl⟩ (.inl (by kernel_rfl)) (se_bin sop_addA (se_ix (se_var (i := 0) (by kernel_rfl) (.inl (by kernel_rfl))) se_int (fun _ _ => rfl)) se_int) se_int) (ss_cons (ss_set (i := 4) ⟨(by exact G.nd), (by kernel_rfl), .inl (by kernel_rfl), .inl rfl⟩ (se_bin sop_mod (se_fnT sf_int (gl_of (by kernel_rfl)) (S.no 32 (by kernel_rfl)) (by kernel_rfl) (sb_cons (se_bin sop_mulA (se_fnT sf_int (gl_of (by kernel_rfl)) (S.no 32 (by kernel_rfl)) (by kernel_rfl) (sb_cons (se_bin sop_addA (se_ix (se_var (i := 0) (by kernel_rfl) (.inl (by kernel_rfl))) se_int (fun _ _ => rfl)) (se_bin sop_mulA se_int (se_ix (se_var (i := 0) (by kernel_rfl) (.inl (by kernel_rfl))) se_int (fun _ _ => rfl)))) sb_nil)) se_int) sb_nil)) se_int)) (ss_cons (ss_set (i := 4) ⟨(by exact G.nd), (by kernel_rfl), .inl (by kernel_rfl), .inl rfl⟩ (se_bin sop_mod (se_fnT sf_int (gl_of (by kernel_rfl)) (S.no 32 (by kernel_rfl)) (by kernel_rfl) (sb_cons (se_bin sop_mulA (se_var (i := 4) (by kernel_rfl) (.inl (by kernel_rfl))) (se_bin sop_addA (se_bin sop_fdiv (se_var (i := 4) (by kernel_rfl) (.inl (by kernel_rfl))) se_int) se_int)) sb_nil)) se_int)) (ss_cons (ss_set (i := 4) ⟨(by exact G.nd), (by kernel_rfl), .inl (by kernel_rfl), .inl rfl⟩ (se_bin sop_mod (se_fnT sf_int (gl_of (by kernel_rfl)) (S.no 32 (by kernel_rfl)) (by kernel_rfl) (sb_cons (se_bin sop_mulA (se_var (i := 4) (by kernel_rfl) (.inl (by kernel_rfl))) (se_bin sop_addA (se_bin sop_fdiv (se_var (i := 4) (by kernel_rfl) (.inl (by kernel_rfl))) se_int) se_int)) sb_nil)) se_int)) (ss_one (ss_retF (se_bin sop_mod (se_fnT sf_int (gl_of (by kernel_rfl)) (S.no 32 (by kernel_rfl)) (by kernel_rfl) (sb_cons (se_bin sop_fdiv (se_var (i := 4) (by kernel_rfl) (.inl (by kernel_rfl))) se_int) sb_nil)) (se_var (i := 1) (by kernel_rfl) (.inl (by kernel_rfl))))))))))))
def M__law_sure : Sx := (sSeq (sOwn 1 (eLst lNil)) (sSeq (sFor (iEnumS (eVar 0)) (gTp (gCs (gNm 2) (gCs (gNm 3) gNl))) (sFor (iEnumS (eVar 3)) (gTp (gCs (gNm 4) (gCs (gNm 5) gNl))) (sIf (tAnd' (tV (eBin (pur eqD) (eVar 5) (eFn (g1 fun d => lift (minD' d)) (lCons (eVar 3) lNil)))) (tV (eBin (pur eqD) (eVar 5) (eFn (g1 fun d => lift (maxD' d)) (lCons (eLc [6, 7] (iSeq (eVar 0)) (gNm 7) tYesS (eBin ixD (eVar 7) (eVar 4))) lNil))))) (sApp 1 (eTup (lCons (eVar 2) (lCons (eVar 4) lNil)))) sNil))) (sFrz 1 (sRet (eVar 1)))))
def F__law_sure : Fx := callS .froz M__law_sure
theorem p__law_sure (S : SaysE P fa fn cls "ClueError" tf K mg base T) : Prm P w K mg base T 1 "_law_sure" ["game"] .froz F__law_sure := by
  refine prm_of (N := ["game", "found", "i", "row", "j", "worth", ".0", "line"]) (m := M__law_sure) S.s 16 16 (d := mkD "_law_sure" 24) (by kernel_rfl) (by kernel_rfl) rfl rfl rfl ⟨by kernel_rfl, by kernel_rfl, by kernel_rfl, by decide +kernel, by kernel_rfl, by decide +kernel, by decide +kernel⟩ (fun _ _ _ _ _ _ us hl => match us, hl with | [_], _ => rfl) fun f cd A outer s W E hT G hp => ?_
  subst hT
  exact (ss_cons (ss_own (i := 1) ⟨(by exact G.nd), (by kernel_rfl), .inl (by kernel_rfl), .inl rfl⟩ (se_lst sa_nil ln_nil)) (ss_cons (ss_for hp G.calm (si_enum (gl_of (by kernel_rfl)) (S.no 31 (by kernel_rfl)) (se_var (i := 0) (by kernel_rfl) (.inl (by kernel_rfl)))) (sg_tup (n := 2) (by exact G.calm) (sg_cons (sg_nm (i := 2) ⟨(by exact G.nd), (by kernel_rfl), .inl (by kernel_rfl), .inl rfl⟩) (sg_cons (sg_nm (i := 3) ⟨(by exact G.nd), (by kernel_rfl), .inl (by kernel_rfl), .inl rfl⟩) sg_nil)) (gl_len_cons (gl_len_cons gl_len_nil))) (ss_one (ss_for hp G.calm (si_enum (gl_of (by kernel_rfl)) (S.no 31 (by kernel_rfl)) (se_var (i := 3) (by kernel_rfl) (.inl (by kernel_rfl)))) (sg_tup (n := 2) (by exact G.calm) (sg_cons (sg_nm (i := 4) ⟨(by exact G.nd), (by kernel_rfl), .inr (by kernel_rfl), .inl rfl⟩) (sg_cons (sg_nm (i := 5) ⟨(by exact G.nd), (by kernel_rfl), .inl (by kernel_rfl), .inl rfl⟩) sg_nil)) (gl_len_cons (gl_len_cons gl_len_nil))) (ss_one (ss_if (SW.st (sw_and (st_cmp (sop_eq G.sys G.un) (se_var (i := 5) (by kernel_rfl) (.inl (by kernel_rfl))) (se_fnB (sf_min G.calm G.sys G.un) (gl_of (by kernel_rfl)) (S.no 37 (by kernel_rfl)) (by kernel_rfl) (sb_cons (se_var (i := 3) (by kernel_rfl) (.inl (by kernel_rfl))) sb_nil)) (nomark _)) (sw_and1 (st_cmp (sop_eq G.sys G.un) (se_var (i := 5) (by kernel_rfl) (.inl (by kernel_rfl))) (se_fnB (sf_max G.calm G.sys G.un) (gl_of (by kernel_rfl)) (S.no 36 (by kernel_rfl)) (by kernel_rfl) (sb_cons (se_lc (own := [(".0", 6), ("line", 7)]) (is := [7]) G.calm G.nd (blkOk_by (by kernel_rfl)) (by decide) (si_seq (se_var (i := 0) (by kernel_rfl) (.inl (by kernel_rfl)))) (fun _ _ _ _ _ => (sg_nm (i := 7) ⟨(by exact G.nd), (by kernel_rfl), .inl (by kernel_rfl), .inr (by kernel_rfl)⟩)) (fun _ _ _ _ _ => sts_nil) (fun _ _ _ _ _ => (se_ix (se_var (i := 7) (by kernel_rfl) (.inl (by kernel_rfl))) (se_var (i := 4) (by kernel_rfl) (.inr (.inl (by kernel_rfl)))) (fun _ _ => rfl)))) sb_nil)) (nomark _))))) (ss_one (ss_app (i := 1) ⟨(by exact G.nd), (by kernel_rfl), .inl (by kernel_rfl), .inl rfl⟩ (.inl (by kernel_rfl)) (se_tup (sa_cons (se_var (i := 2) (by kernel_rfl) (.inl (by kernel_rfl))) (sa_cons (se_var (i := 4) (by kernel_rfl) (.inr (.inl (by kernel_rfl)))) sa_nil)) (ln_cons (ln_cons ln_nil))))) ss_nil))))) (ss_frzs (i := 1) (ss_one (ss_retF (se_var (i := 1) (by kernel_rfl) (.inl (by kernel_rfl))))))))
def M__law_is_told : Sx := (sSeq (sIf (tOr' (tNot' (tV (eIsa PyData.isTuple (eVar 1)))) (tOr' (tV (eBin (pur ninD) (eFn (g1 fun d => lift (lenD d)) (lCons (eVar 1) lNil)) (eTup (lCons (eC (.int 1)) (lCons (eC (.int 3)) lNil))))) (tNot' (tV (eIsa PyData.isStr (eBin ixD (eVar 1) (eC (.int 0)))))))) (sRet (eC (.bl false))) sNil) (sSeq (sIf (tV (eBin (pur eqD) (eFn (g1 fun d => lift (lenD d)) (lCons (eVar 1) lNil)) (eC (.int 1)))) (sRet (eAnd (eBin (pur eqD) (eBin ixD (eVar 1) (eC (.int 0))) (eC (.str "mixed"))) (eBin (pur eqD) (eFn (g1 fun d => lift (lenD d)) (lCons (eVar 0) lNil)) (eC (.int 0))))) sNil) (sSeq (sIf (tOr' (tV (eBin (pur neD) (eBin ixD (eVar 1) (eC (.int 0))) (eC (.str "sure")))) (tNot' (tV (eFn (g1 fun d => lift (allD d)) (lCons (eLc [2, 3] (iSeq (eSl slA (eVar 1) (pAt (eC (.int 1))) pNo)) (gNm 3) tYesS (eAnd (eIsa PyData.isInt (eVar 3)) (eNot (eIsa PyData.isBool (eVar 3))))) lNil))))) (sRet (eC (.bl false))) sNil) (sRet (eBin (pur inD) (eSl slA (eVar 1) (pAt (eC (.int 1))) pNo) (eVar 0))))))
def F__law_is_told : Fx := callS .froz M__law_is_told
theorem p__law_is_told (S : SaysE P fa fn cls "ClueError" tf K mg base T) : Prm P w K mg base T 1 "_law_is_told" ["sure", "thing"] .froz F__law_is_told := by
  refine prm_of (N := ["sure", "thing", ".0", "one"]) (m := M__law_is_told) S.s 17 17 (d := mkD "_law_is_told" 25) (by kernel_rfl) (by kernel_rfl) rfl rfl rfl ⟨by kernel_rfl, by kernel_rfl, by kernel_rfl, by decide +kernel, by kernel_rfl, by decide +kernel, by decide +kernel⟩ (fun _ _ _ _ _ _ us hl => match us, hl with | [_, _], _ => rfl) fun f cd A outer s W E hT G hp => ?_
  subst hT
  exact (ss_cons (ss_if (SW.st (sw_or (st_not (st_val (se_isa isa_tuple G.sys (gl_of (by kernel_rfl)) (S.no 33 (by kernel_rfl)) (gl_of (by kernel_rfl)) (S.no 43 (by kernel_rfl)) (by kernel_rfl) (se_var (i := 1) (by kernel_rfl) (.inl (by kernel_rfl)))))) (sw_or (st_cmp (sop_nin G.sys G.un) (se_fnB sf_len (gl_of (by kernel_rfl)) (S.no 34 (by kernel_rfl)) (by kernel_rfl) (sb_cons (se_var (i := 1) (by kernel_rfl) (.inl (by kernel_rfl))) sb_nil)) (se_tup (sa_cons se_int (sa_cons se_int sa_nil)) (ln_cons (ln_cons ln_nil))) (by with_unfolding_all rfl)) (sw_or1 (st_not (st_val (se_isa isa_str G.sys (gl_of (by kernel_rfl)) (S.no 33 (by kernel_rfl)) (gl_of (by kernel_rfl)) (S.no 41 (by kernel_rfl)) (by kernel_rfl) (se_ix (se_var (i := 1) (by kernel_rfl) (.inl (by kernel_rfl))) se_int (fun _ _ => rfl))))))))) (ss_one (ss_retF se_bl)) ss_nil) (ss_cons (ss_if (st_cmp (sop_eq G.sys G.un) (se_fnB sf_len (gl_of (by kernel_rfl)) (S.no 34 (by kernel_rfl)) (by kernel_rfl) (sb_cons (se_var (i := 1) (by kernel_rfl) (.inl (by kernel_rfl))) sb_nil)) se_int (nomark _)) (ss_one (ss_retF (se_and (se_cmp (sop_eq G.sys G.un) (se_ix (se_var (i := 1) (by kernel_rfl) (.inl (by kernel_rfl))) se_int (fun _ _ => rfl)) se_str (nomark _)) (se_one (se_cmp (sop_eq G.sys G.un) (se_fnB sf_len (gl_of (by kernel_rfl)) (S.no 34 (by kernel_rfl)) (by kernel_rfl) (sb_cons (se_var (i := 0) (by kernel_rfl) (.inl (by kernel_rfl))) sb_nil)) se_int (nomark _)))))) ss_nil) (ss_cons (ss_if (SW.st (sw_or (st_cmp (sop_ne G.sys G.un) (se_ix (se_var (i := 1) (by kernel_rfl) (.inl (by kernel_rfl))) se_int (fun _ _ => rfl)) se_str (nomark _)) (sw_or1 (st_not (st_val (se_fnB (sf_all G.calm G.sys) (gl_of (by kernel_rfl)) (S.no 28 (by kernel_rfl)) (by kernel_rfl) (sb_cons (se_lc (own := [(".0", 2), ("one", 3)]) (is := [3]) G.calm G.nd (blkOk_by (by kernel_rfl)) (by decide) (si_seq (se_slA (se_var (i := 1) (by kernel_rfl) (.inl (by kernel_rfl))) (so_at se_int) so_no)) (fun _ _ _ _ _ => (sg_nm (i := 3) ⟨(by exact G.nd), (by kernel_rfl), .inl (by kernel_rfl), .inr (by kernel_rfl)⟩)) (fun _ _ _ _ _ => sts_nil) (fun _ _ _ _ _ => (se_and (se_isa isa_int G.sys (gl_of (by kernel_rfl)) (S.no 33 (by kernel_rfl)) (gl_of (by kernel_rfl)) (S.no 32 (by kernel_rfl)) (by kernel_rfl) (se_var (i := 3) (by kernel_rfl) (.inl (by kernel_rfl)))) (se_one (se_not (se_isa isa_bool G.sys (gl_of (by kernel_rfl)) (S.no 33 (by kernel_rfl)) (gl_of (by kernel_rfl)) (S.no 30 (by kernel_rfl)) (by kernel_rfl) (se_var (i := 3) (by kernel_rfl) (.inl (by kernel_rfl))))))))) sb_nil))))))) (ss_one (ss_retF se_bl)) ss_nil) (ss_one (ss_retF (se_cmp (sop_in G.sys G.un) (se_slA (se_var (i := 1) (by kernel_rfl) (.inl (by kernel_rfl))) (so_at se_int) so_no) (se_var (i := 0) (by kernel_rfl) (.inl (by kernel_rfl))) (by with_unfolding_all rfl)))))))
def M__law_is_worse : Sx := (sRet (eAnd (eFn (g1 fun d => lift (allD d)) (lCons (eLc [2, 3, 4] (iZipS (eVar 0) (eVar 1)) (gTp (gCs (gNm 3) (gCs (gNm 4) gNl))) tYesS (eBin (pur leD) (eVar 3) (eVar 4))) lNil)) (eBin (pur neD) (eVar 0) (eVar 1))))
def F__law_is_worse : Fx := callS .froz M__law_is_worse
theorem p__law_is_worse (S : SaysE P fa fn cls "ClueError" tf K mg base T) : Prm P w K mg base T 1 "_law_is_worse" ["one", "other"] .froz F__law_is_worse := by
  refine prm_of (N := ["one", "other", ".0", "mine", "its"]) (m := M__law_is_worse) S.s 21 21 (d := mkD "_law_is_worse" 29) (by kernel_rfl) (by kernel_rfl) rfl rfl rfl ⟨by kernel_rfl, by kernel_rfl, by kernel_rfl, by decide +kernel, by kernel_rfl, by decide +kernel, by decide +kernel⟩ (fun _ _ _ _ _ _ us hl => match us, hl with | [_, _], _ => rfl) fun f cd A outer s W E hT G hp => ?_
  subst hT
  exact (ss_one (ss_retF (se_and (se_fnB (sf_all G.calm G.sys) (gl_of (by kernel_rfl)) (S.no 28 (by kernel_rfl)) (by kernel_rfl) (sb_cons (se_lc (own := [(".0", 2), ("mine", 3), ("its", 4)]) (is := [3, 4]) G.calm G.nd (blkOk_by (by kernel_rfl)) (by decide) (si_zip (gl_of (by kernel_rfl)) (S.no 44 (by kernel_rfl)) (se_var (i := 0) (by kernel_rfl) (.inl (by kernel_rfl))) (se_var (i := 1) (by kernel_rfl) (.inl (by kernel_rfl)))) (fun _ _ _ _ _ => (sg_tup (n := 2) (by exact G.calm) (sg_cons (sg_nm (i := 3) ⟨(by exact G.nd), (by kernel_rfl), .inl (by kernel_rfl), .inr (by kernel_rfl)⟩) (sg_cons (sg_nm (i := 4) ⟨(by exact G.nd), (by kernel_rfl), .inl (by kernel_rfl), .inr (by kernel_rfl)⟩) sg_nil)) (gl_len_cons (gl_len_cons gl_len_nil)))) (fun _ _ _ _ _ => sts_nil) (fun _ _ _ _ _ => (se_cmp (sop_le G.sys G.un) (se_var (i := 3) (by kernel_rfl) (.inl (by kernel_rfl))) (se_var (i := 4) (by kernel_rfl) (.inl (by kernel_rfl))) (nomark _)))) sb_nil)) (se_one (se_cmp (sop_ne G.sys G.un) (se_var (i := 0) (by kernel_rfl) (.inl (by kernel_rfl))) (se_var (i := 1) (by kernel_rfl) (.inl (by kernel_rfl))) (nomark _))))))
def M__law_tops : Sx := (sRet (eLc [1, 2] (iRng1S (eFn (g1 fun d => lift (lenD d)) (lCons (eBin ixD (eVar 0) (eC (.int 0))) lNil))) (gNm 2) tYesS (eFn (g1 fun d => lift (maxD' d)) (lCons (eLc [1, 3] (iSeq (eVar 0)) (gNm 3) tYesS (eBin ixD (eVar 3) (eVar 2))) lNil))))
def F__law_tops : Fx := callS .froz M__law_tops
theorem p__law_tops (S : SaysE P fa fn cls "ClueError" tf K mg base T) : Prm P w K mg base T 1 "_law_tops" ["game"] .froz F__law_tops := by
  refine prm_of (N := ["game", ".0", "j", "row"]) (m := M__law_tops) S.s 24 24 (d := mkD "_law_tops" 32) (by kernel_rfl) (by kernel_rfl) rfl rfl rfl ⟨by kernel_rfl, by kernel_rfl, by kernel_rfl, by decide +kernel, by kernel_rfl, by decide +kernel, by decide +kernel⟩ (fun _ _ _ _ _ _ us hl => match us, hl with | [_], _ => rfl) fun f cd A outer s W E hT G hp => ?_
  subst hT
  exact (ss_one (ss_retF (SE.froz (se_lc (own := [(".0", 1), ("j", 2)]) (is := [2]) G.calm G.nd (blkOk_by (by kernel_rfl)) (by decide) (si_rng1 (gl_of (by kernel_rfl)) (S.no 38 (by kernel_rfl)) (se_fnB sf_len (gl_of (by kernel_rfl)) (S.no 34 (by kernel_rfl)) (by kernel_rfl) (sb_cons (se_ix (se_var (i := 0) (by kernel_rfl) (.inr (.inl (by kernel_rfl)))) se_int (fun _ _ => rfl)) sb_nil))) (fun _ _ _ _ _ => (sg_nm (i := 2) ⟨(by exact G.nd), (by kernel_rfl), .inr (by kernel_rfl), .inl (by kernel_rfl)⟩)) (fun _ _ _ _ _ => sts_nil) (fun _ _ _ _ _ => (se_fnB (sf_max G.calm G.sys G.un) (gl_of (by kernel_rfl)) (S.no 36 (by kernel_rfl)) (by kernel_rfl) (sb_cons (se_lc (own := [(".0", 1), ("row", 3)]) (is := [3]) G.calm G.nd (blkOk_by (by kernel_rfl)) (by decide) (si_seq (se_var (i := 0) (by kernel_rfl) (.inr (.inl (by kernel_rfl))))) (fun _ _ _ _ _ => (sg_nm (i := 3) ⟨(by exact G.nd), (by kernel_rfl), .inl (by kernel_rfl), .inr (by kernel_rfl)⟩)) (fun _ _ _ _ _ => sts_nil) (fun _ _ _ _ _ => (se_ix (se_var (i := 3) (by kernel_rfl) (.inl (by kernel_rfl))) (se_var (i := 2) (by kernel_rfl) (.inr (.inl (by kernel_rfl)))) (fun _ _ => rfl)))) sb_nil)))))))
def M_is_within : Sx := (sRet (eAnd (eFn F_is_integer (lCons (eVar 0) lNil)) (eChain (pur leD) (pur leD) (eVar 1) (eVar 0) (eVar 2))))
def F_is_within : Fx := callS .froz M_is_within
theorem p_is_within (S : SaysE P fa fn cls "ClueError" tf K mg base T) : Prm P w K mg base T 2 "is_within" ["thing", "low", "high"] .froz F_is_within := by
  have p_is_integer := p_is_integer (P := P) (w := w) (base := base) (T := T) S
  refine prm_of (N := ["thing", "low", "high"]) (m := M_is_within) S.s 1 1 (d := mkD "is_within" 2) (by kernel_rfl) (by kernel_rfl) rfl rfl rfl ⟨by kernel_rfl, by kernel_rfl, by kernel_rfl, by decide +kernel, by kernel_rfl, by decide +kernel, by decide +kernel⟩ (fun _ _ _ _ _ _ us hl => match us, hl with | [_, _, _], _ => rfl) fun f cd A outer s W E hT G hp => ?_
  subst hT
  exact (ss_one (ss_retF (se_and (se_callP G p_is_integer (by decide) (gl_of (by kernel_rfl)) (sa_cons (se_var (i := 0) (by kernel_rfl) (.inl (by kernel_rfl))) sa_nil) (ln_cons ln_nil)) (se_one (se_chain (sop_le G.sys G.un) (sop_le G.sys G.un) (se_var (i := 1) (by kernel_rfl) (.inl (by kernel_rfl))) (se_var (i := 0) (by kernel_rfl) (.inl (by kernel_rfl))) (se_var (i := 2) (by kernel_rfl) (.inl (by kernel_rfl))))))))
def M__law_any : Sx := (sRet (eBin ixD (eVar 1) (eFn F__law_draw (lCons (eVar 0) (lCons (eFn (g1 fun d => lift (lenD d)) (lCons (eVar 1) lNil)) lNil)))))
def F__law_any : Fx := callS .froz M__law_any
theorem p__law_any (S : SaysE P fa fn cls "ClueError" tf K mg base T) : Prm P w K mg base T 2 "_law_any" ["hand", "some"] .froz F__law_any := by
  have p__law_draw := p__law_draw (P := P) (w := w) (base := base) (T := T) S
  refine prm_of (N := ["hand", "some"]) (m := M__law_any) S.s 14 14 (d := mkD "_law_any" 22) (by kernel_rfl) (by kernel_rfl) rfl rfl rfl ⟨by kernel_rfl, by kernel_rfl, by kernel_rfl, by decide +kernel, by kernel_rfl, by decide +kernel, by decide +kernel⟩ (fun _ _ _ _ _ _ us hl => match us, hl with | [_, _], _ => rfl) fun f cd A outer s W E hT G hp => ?_
  subst hT
  exact (ss_one (ss_retF (se_ix (se_var (i := 1) (by kernel_rfl) (.inl (by kernel_rfl))) (se_callP G p__law_draw (by decide) (gl_of (by kernel_rfl)) (sa_cons (se_var (i := 0) (by kernel_rfl) (.inl (by kernel_rfl))) (sa_cons (se_fnB sf_len (gl_of (by kernel_rfl)) (S.no 34 (by kernel_rfl)) (by kernel_rfl) (sb_cons (se_var (i := 1) (by kernel_rfl) (.inl (by kernel_rfl))) sb_nil)) sa_nil)) (ln_cons (ln_cons ln_nil))) (fun _ _ => rfl))))
def M_check_game : Sx := (sSeq (sIf (tOr' (tNot' (tV (eFn F_is_tuple (lCons (eVar 0) (lCons (eC (.int 1)) (lCons (eC (.int 3)) lNil)))))) (tNot' (tV (eFn F_is_tuple (lCons (eBin ixD (eVar 0) (eC (.int 0))) (lCons (eC (.int 1)) (lCons (eC (.int 3)) lNil))))))) (sRaise "NoGame") sNil) (sSeq (sSet 1 (eFn (g1 fun d => lift (lenD d)) (lCons (eBin ixD (eVar 0) (eC (.int 0))) lNil))) (sFor (iSeq (eVar 0)) (gNm 2) (sIf (tOr' (tNot' (tV (eFn F_is_tuple (lCons (eVar 2) (lCons (eVar 1) (lCons (eVar 1) lNil)))))) (tNot' (tV (eFn (g1 fun d => lift (allD d)) (lCons (eLc [3, 4] (iSeq (eVar 2)) (gNm 4) tYesS (eFn F_is_within (lCons (eVar 4) (lCons (eNeg (eC (.int 20))) (lCons (eC (.int 20)) lNil))))) lNil))))) (sRaise "NoGame") sNil))))
def F_check_game : Fx := callS .froz M_check_game
theorem p_check_game (S : SaysE P fa fn cls "ClueError" tf K mg base T) : Prm P w K mg base T 3 "check_game" ["game"] .froz F_check_game := by
  have p_is_within := p_is_within (P := P) (w := w) (base := base) (T := T) S
  have p_is_tuple := p_is_tuple (P := P) (w := w) (base := base) (T := T) S
  refine prm_of (N := ["game", "many", "row", ".0", "one"]) (m := M_check_game) S.s 3 3 (d := mkD "check_game" 10) (by kernel_rfl) (by kernel_rfl) rfl rfl rfl ⟨by kernel_rfl, by kernel_rfl, by kernel_rfl, by decide +kernel, by kernel_rfl, by decide +kernel, by decide +kernel⟩ (fun _ _ _ _ _ _ us hl => match us, hl with | [_], _ => rfl) fun f cd A outer s W E hT G hp => ?_
  subst hT
  exact (ss_cons (ss_if (SW.st (sw_or (st_not (st_val (se_callP G p_is_tuple (by decide) (gl_of (by kernel_rfl)) (sa_cons (se_var (i := 0) (by kernel_rfl) (.inl (by kernel_rfl))) (sa_cons se_int (sa_cons (se_gint (S.in_ 45 (by kernel_rfl)) (gl_of (by kernel_rfl))) sa_nil))) (ln_cons (ln_cons (ln_cons ln_nil)))))) (sw_or1 (st_not (st_val (se_callP G p_is_tuple (by decide) (gl_of (by kernel_rfl)) (sa_cons (se_ix (se_var (i := 0) (by kernel_rfl) (.inl (by kernel_rfl))) se_int (fun _ _ => rfl)) (sa_cons se_int (sa_cons (se_gint (S.in_ 45 (by kernel_rfl)) (gl_of (by kernel_rfl))) sa_nil))) (ln_cons (ln_cons (ln_cons ln_nil))))))))) (ss_one (ss_raise G (S.sup _ (S.mem (j := 0) (d := c_NoGame) rfl)).1 xt_NoGame (S.cl _ (S.mem (j := 0) (d := c_NoGame) rfl)) (gl_of (by kernel_rfl)))) ss_nil) (ss_cons (ss_set (i := 1) ⟨(by exact G.nd), (by kernel_rfl), .inl (by kernel_rfl), .inl rfl⟩ (se_fnB sf_len (gl_of (by kernel_rfl)) (S.no 34 (by kernel_rfl)) (by kernel_rfl) (sb_cons (se_ix (se_var (i := 0) (by kernel_rfl) (.inl (by kernel_rfl))) se_int (fun _ _ => rfl)) sb_nil))) (ss_one (ss_for hp G.calm (si_seq (se_var (i := 0) (by kernel_rfl) (.inl (by kernel_rfl)))) (sg_nm (i := 2) ⟨(by exact G.nd), (by kernel_rfl), .inl (by kernel_rfl), .inl rfl⟩) (ss_one (ss_if (SW.st (sw_or (st_not (st_val (se_callP G p_is_tuple (by decide) (gl_of (by kernel_rfl)) (sa_cons (se_var (i := 2) (by kernel_rfl) (.inl (by kernel_rfl))) (sa_cons (se_var (i := 1) (by kernel_rfl) (.inl (by kernel_rfl))) (sa_cons (se_var (i := 1) (by kernel_rfl) (.inl (by kernel_rfl))) sa_nil))) (ln_cons (ln_cons (ln_cons ln_nil)))))) (sw_or1 (st_not (st_val (se_fnB (sf_all G.calm G.sys) (gl_of (by kernel_rfl)) (S.no 28 (by kernel_rfl)) (by kernel_rfl) (sb_cons (se_lc (own := [(".0", 3), ("one", 4)]) (is := [4]) G.calm G.nd (blkOk_by (by kernel_rfl)) (by decide) (si_seq (se_var (i := 2) (by kernel_rfl) (.inl (by kernel_rfl)))) (fun _ _ _ _ _ => (sg_nm (i := 4) ⟨(by exact G.nd), (by kernel_rfl), .inl (by kernel_rfl), .inr (by kernel_rfl)⟩)) (fun _ _ _ _ _ => sts_nil) (fun _ _ _ _ _ => (se_callP (G.blk _ _ _ _ _ _) p_is_within (by decide) (gl_of (by kernel_rfl)) (sa_cons (se_var (i := 4) (by kernel_rfl) (.inl (by kernel_rfl))) (sa_cons (se_neg (se_gint (S.in_ 46 (by kernel_rfl)) (gl_of (by kernel_rfl)))) (sa_cons (se_gint (S.in_ 46 (by kernel_rfl)) (gl_of (by kernel_rfl))) sa_nil))) (ln_cons (ln_cons (ln_cons ln_nil)))))) sb_nil))))))) (ss_one (ss_raise G (S.sup _ (S.mem (j := 0) (d := c_NoGame) rfl)).1 xt_NoGame (S.cl _ (S.mem (j := 0) (d := c_NoGame) rfl)) (gl_of (by kernel_rfl)))) ss_nil))))))
def M__law_game : Sx := (sSeq (sAsg (gTp (gCs (gNm 1) (gCs (gNm 2) (gCs (gNm 3) gNl)))) (eTup (lCons (eBin (pur addA) (eC (.int 1)) (eFn F__law_draw (lCons (eVar 0) (lCons (eC (.int 3)) lNil)))) (lCons (eBin (pur addA) (eC (.int 1)) (eFn F__law_draw (lCons (eVar 0) (lCons (eC (.int 3)) lNil)))) (lCons (eFn F__law_any (lCons (eVar 0) (lCons (eLst (lCons (eC (.int 1)) (lCons (eC (.int 2)) (lCons (eC (.int 20)) lNil)))) lNil))) lNil))))) (sSeq (sOwn 4 (eLst lNil)) (sSeq (sFor (iRng1S (eVar 1)) (gNm 5) (sApp 4 (eFn (g1 fun d => lift (tupD d)) (lCons (eLc [6, 7] (iRng1S (eVar 2)) (gNm 7) tYesS (eBin (pur subD) (eFn F__law_draw (lCons (eVar 0) (lCons (eBin (pur addA) (eBin (pur mulA) (eC (.int 2)) (eVar 3)) (eC (.int 1))) lNil))) (eVar 3))) lNil)))) (sRet (eFn (g1 fun d => lift (tupD d)) (lCons (eVarB 4) lNil))))))
def F__law_game : Fx := callS .froz M__law_game
theorem p__law_game (S : SaysE P fa fn cls "ClueError" tf K mg base T) : Prm P w K mg base T 3 "_law_game" ["hand"] .froz F__law_game := by
  have p__law_draw := p__law_draw (P := P) (w := w) (base := base) (T := T) S
  have p__law_any := p__law_any (P := P) (w := w) (base := base) (T := T) S
  refine prm_of (N := ["hand", "high", "wide", "most", "rows", "row", ".0", "column"]) (m := M__law_game) S.s 15 15 (d := mkD "_law_game" 23) (by kernel_rfl) (by kernel_rfl) rfl rfl rfl ⟨by kernel_rfl, by kernel_rfl, by kernel_rfl, by decide +kernel, by kernel_rfl, by decide +kernel, by decide +kernel⟩ (fun _ _ _ _ _ _ us hl => match us, hl with | [_], _ => rfl) fun f cd A outer s W E hT G hp => ?_
  subst hT
  exact (ss_cons (ss_asg (se_tup (sa_cons (se_bin sop_addA se_int (se_callP G p__law_draw (by decide) (gl_of (by kernel_rfl)) (sa_cons (se_var (i := 0) (by kernel_rfl) (.inr (.inl (by kernel_rfl)))) (sa_cons se_int sa_nil)) (ln_cons (ln_cons ln_nil)))) (sa_cons (se_bin sop_addA se_int (se_callP G p__law_draw (by decide) (gl_of (by kernel_rfl)) (sa_cons (se_var (i := 0) (by kernel_rfl) (.inr (.inl (by kernel_rfl)))) (sa_cons se_int sa_nil)) (ln_cons (ln_cons ln_nil)))) (sa_cons (se_callP G p__law_any (by decide) (gl_of (by kernel_rfl)) (sa_cons (se_var (i := 0) (by kernel_rfl) (.inr (.inl (by kernel_rfl)))) (sa_cons (SE.froz (se_lst (sa_cons se_int (sa_cons se_int (sa_cons se_int sa_nil))) (ln_cons (ln_cons (ln_cons ln_nil))))) sa_nil)) (ln_cons (ln_cons ln_nil))) sa_nil))) (ln_cons (ln_cons (ln_cons ln_nil)))) (sg_tup (n := 3) (by exact G.calm) (sg_cons (sg_nm (i := 1) ⟨(by exact G.nd), (by kernel_rfl), .inl (by kernel_rfl), .inl rfl⟩) (sg_cons (sg_nm (i := 2) ⟨(by exact G.nd), (by kernel_rfl), .inl (by kernel_rfl), .inl rfl⟩) (sg_cons (sg_nm (i := 3) ⟨(by exact G.nd), (by kernel_rfl), .inr (by kernel_rfl), .inl rfl⟩) sg_nil))) (gl_len_cons (gl_len_cons (gl_len_cons gl_len_nil))))) (ss_cons (ss_own (i := 4) ⟨(by exact G.nd), (by kernel_rfl), .inl (by kernel_rfl), .inl rfl⟩ (se_lst sa_nil ln_nil)) (ss_cons (ss_for hp G.calm (si_rng1 (gl_of (by kernel_rfl)) (S.no 38 (by kernel_rfl)) (se_var (i := 1) (by kernel_rfl) (.inl (by kernel_rfl)))) (sg_nm (i := 5) ⟨(by exact G.nd), (by kernel_rfl), .inl (by kernel_rfl), .inl rfl⟩) (ss_one (ss_app (i := 4) ⟨(by exact G.nd), (by kernel_rfl), .inl (by kernel_rfl), .inl rfl⟩ (.inl (by kernel_rfl)) (se_fnT sf_tup (gl_of (by kernel_rfl)) (S.no 43 (by kernel_rfl)) (by kernel_rfl) (sb_cons (se_lc (own := [(".0", 6), ("column", 7)]) (is := [7]) G.calm G.nd (blkOk_by (by kernel_rfl)) (by decide) (si_rng1 (gl_of (by kernel_rfl)) (S.no 38 (by kernel_rfl)) (se_var (i := 2) (by kernel_rfl) (.inl (by kernel_rfl)))) (fun _ _ _ _ _ => (sg_nm (i := 7) ⟨(by exact G.nd), (by kernel_rfl), .inl (by kernel_rfl), .inr (by kernel_rfl)⟩)) (fun _ _ _ _ _ => sts_nil) (fun _ _ _ _ _ => (se_bin sop_sub (se_callP (G.blk _ _ _ _ _ _) p__law_draw (by decide) (gl_of (by kernel_rfl)) (sa_cons (se_var (i := 0) (by kernel_rfl) (.inr (.inl (by kernel_rfl)))) (sa_cons (se_bin sop_addA (se_bin sop_mulA se_int (se_var (i := 3) (by kernel_rfl) (.inr (.inl (by kernel_rfl))))) se_int) sa_nil)) (ln_cons (ln_cons ln_nil))) (se_var (i := 3) (by kernel_rfl) (.inr (.inl (by kernel_rfl))))))) sb_nil))))) (ss_one (ss_retF (se_fnT sf_tup (gl_of (by kernel_rfl)) (S.no 43 (by kernel_rfl)) (by kernel_rfl) (sb_cons (se_varB (i := 4) (by kernel_rfl) (.inl (by kernel_rfl))) sb_nil)))))))
def M__law_deep : Sx := (sSeq (sSet 1 (eFn F__law_any (lCons (eVar 0) (lCons (eLst (lCons (eC .non) (lCons (eC (.str "?")) (lCons (eC (.bl true)) lNil)))) lNil)))) (sSeq (sFor (iRng1S (eBin (pur addA) (eC (.int 5)) (eFn F__law_draw (lCons (eVar 0) (lCons (eC (.int 25)) lNil))))) (gNm 2) (sSet 1 (eBin ixD (eLst (lCons (eTup (lCons (eVar 1) lNil)) (lCons (eLst (lCons (eVar 1) lNil)) (lCons (eDct1 (eC (.int 0)) (eVar 1)) lNil)))) (eFn F__law_draw (lCons (eVar 0) (lCons (eC (.int 3)) lNil)))))) (sRet (eVar 1))))
def F__law_deep : Fx := callS .froz M__law_deep
theorem p__law_deep (S : SaysE P fa fn cls "ClueError" tf K mg base T) : Prm P w K mg base T 3 "_law_deep" ["hand"] .froz F__law_deep := by
  have p__law_draw := p__law_draw (P := P) (w := w) (base := base) (T := T) S
  have p__law_any := p__law_any (P := P) (w := w) (base := base) (T := T) S
  refine prm_of (N := ["hand", "found", "turn"]) (m := M__law_deep) S.s 18 18 (d := mkD "_law_deep" 26) (by kernel_rfl) (by kernel_rfl) rfl rfl rfl ⟨by kernel_rfl, by kernel_rfl, by kernel_rfl, by decide +kernel, by kernel_rfl, by decide +kernel, by decide +kernel⟩ (fun _ _ _ _ _ _ us hl => match us, hl with | [_], _ => rfl) fun f cd A outer s W E hT G hp => ?_
  subst hT
  exact (ss_cons (ss_set (i := 1) ⟨(by exact G.nd), (by kernel_rfl), .inl (by kernel_rfl), .inl rfl⟩ (se_callP G p__law_any (by decide) (gl_of (by kernel_rfl)) (sa_cons (se_var (i := 0) (by kernel_rfl) (.inl (by kernel_rfl))) (sa_cons (SE.froz (se_lst (sa_cons se_non (sa_cons se_str (sa_cons se_bl sa_nil))) (ln_cons (ln_cons (ln_cons ln_nil))))) sa_nil)) (ln_cons (ln_cons ln_nil)))) (ss_cons (ss_for hp G.calm (si_rng1 (gl_of (by kernel_rfl)) (S.no 38 (by kernel_rfl)) (se_bin sop_addA se_int (se_callP G p__law_draw (by decide) (gl_of (by kernel_rfl)) (sa_cons (se_var (i := 0) (by kernel_rfl) (.inl (by kernel_rfl))) (sa_cons se_int sa_nil)) (ln_cons (ln_cons ln_nil))))) (sg_nm (i := 2) ⟨(by exact G.nd), (by kernel_rfl), .inl (by kernel_rfl), .inl rfl⟩) (ss_one (ss_set (i := 1) ⟨(by exact G.nd), (by kernel_rfl), .inl (by kernel_rfl), .inl rfl⟩ (se_ix (se_lst (sa_cons (se_tup (sa_cons (se_var (i := 1) (by kernel_rfl) (.inl (by kernel_rfl))) sa_nil) (ln_cons ln_nil)) (sa_cons (SE.froz (se_lst (sa_cons (se_var (i := 1) (by kernel_rfl) (.inl (by kernel_rfl))) sa_nil) (ln_cons ln_nil))) (sa_cons (SE.froz (se_dct1 se_int (se_var (i := 1) (by kernel_rfl) (.inl (by kernel_rfl))))) sa_nil))) (ln_cons (ln_cons (ln_cons ln_nil)))) (se_callP G p__law_draw (by decide) (gl_of (by kernel_rfl)) (sa_cons (se_var (i := 0) (by kernel_rfl) (.inl (by kernel_rfl))) (sa_cons se_int sa_nil)) (ln_cons (ln_cons ln_nil))) (fun _ _ => rfl))))) (ss_one (ss_retF (se_var (i := 1) (by kernel_rfl) (.inl (by kernel_rfl)))))))
def M_sure_or_mixed : Sx := (sSeq (sDrop (eFn F_check_game (lCons (eVar 0) lNil))) (sSeq (sSet 1 (eFn F_sure_places (lCons (eVar 0) lNil))) (sRet (eIf (tV (eBin (pur gtD) (eFn (g1 fun d => lift (lenD d)) (lCons (eVar 1) lNil)) (eC (.int 0)))) (eBin (pur addA) (eTup (lCons (eC (.str "sure")) lNil)) (eBin ixD (eVar 1) (eC (.int 0)))) (eTup (lCons (eC (.str "mixed")) lNil))))))
def F_sure_or_mixed : Fx := callS .froz M_sure_or_mixed
theorem p_sure_or_mixed (S : SaysE P fa fn cls "ClueError" tf K mg base T) : Prm P w K mg base T 4 "sure_or_mixed" ["game"] .froz F_sure_or_mixed := by
  have p_check_game := p_check_game (P := P) (w := w) (base := base) (T := T) S
  have p_sure_places := p_sure_places (P := P) (w := w) (base := base) (T := T) S
  refine prm_of (N := ["game", "some"]) (m := M_sure_or_mixed) S.s 5 5 (d := mkD "sure_or_mixed" 12) (by kernel_rfl) (by kernel_rfl) rfl rfl rfl ⟨by kernel_rfl, by kernel_rfl, by kernel_rfl, by decide +kernel, by kernel_rfl, by decide +kernel, by decide +kernel⟩ (fun _ _ _ _ _ _ us hl => match us, hl with | [_], _ => rfl) fun f cd A outer s W E hT G hp => ?_
  subst hT
  exact (ss_cons (ss_drop (se_callP G p_check_game (by decide) (gl_of (by kernel_rfl)) (sa_cons (se_var (i := 0) (by kernel_rfl) (.inl (by kernel_rfl))) sa_nil) (ln_cons ln_nil))) (ss_cons (ss_set (i := 1) ⟨(by exact G.nd), (by kernel_rfl), .inl (by kernel_rfl), .inl rfl⟩ (se_callP G p_sure_places (by decide) (gl_of (by kernel_rfl)) (sa_cons (se_var (i := 0) (by kernel_rfl) (.inl (by kernel_rfl))) sa_nil) (ln_cons ln_nil))) (ss_one (ss_retF (se_if (st_cmp (sop_gt G.sys G.un) (se_fnB sf_len (gl_of (by kernel_rfl)) (S.no 34 (by kernel_rfl)) (by kernel_rfl) (sb_cons (se_var (i := 1) (by kernel_rfl) (.inl (by kernel_rfl))) sb_nil)) se_int (nomark _)) (se_bin sop_addA (se_tup (sa_cons se_str sa_nil) (ln_cons ln_nil)) (se_ix (se_var (i := 1) (by kernel_rfl) (.inl (by kernel_rfl))) se_int (fun _ _ => rfl))) (se_tup (sa_cons se_str sa_nil) (ln_cons ln_nil)))))))
def M_is_sure_or_mixed : Sx := (sSeq (sDrop (eFn F_check_game (lCons (eVar 0) lNil))) (sSeq (sIf (tOr' (tNot' (tV (eFn F_is_tuple (lCons (eVar 1) (lCons (eC (.int 1)) (lCons (eC (.int 3)) lNil)))))) (tNot' (tV (eIsa PyData.isStr (eBin ixD (eVar 1) (eC (.int 0))))))) (sRet (eC (.bl false))) sNil) (sSeq (sSet 2 (eFn F_sure_places (lCons (eVar 0) lNil))) (sSeq (sIf (tV (eBin (pur eqD) (eBin ixD (eVar 1) (eC (.int 0))) (eC (.str "mixed")))) (sRet (eAnd (eBin (pur eqD) (eFn (g1 fun d => lift (lenD d)) (lCons (eVar 1) lNil)) (eC (.int 1))) (eBin (pur eqD) (eFn (g1 fun d => lift (lenD d)) (lCons (eVar 2) lNil)) (eC (.int 0))))) sNil) (sSeq (sIf (tOr' (tV (eBin (pur neD) (eBin ixD (eVar 1) (eC (.int 0))) (eC (.str "sure")))) (tV (eBin (pur neD) (eFn (g1 fun d => lift (lenD d)) (lCons (eVar 1) lNil)) (eC (.int 3))))) (sRet (eC (.bl false))) sNil) (sRet (eAnd (eFn (g1 fun d => lift (allD d)) (lCons (eLc [3, 4] (iSeq (eSl slA (eVar 1) (pAt (eC (.int 1))) pNo)) (gNm 4) tYesS (eFn F_is_integer (lCons (eVar 4) lNil))) lNil)) (eBin (pur inD) (eSl slA (eVar 1) (pAt (eC (.int 1))) pNo) (eVar 2)))))))))
def F_is_sure_or_mixed : Fx := callS .froz M_is_sure_or_mixed
theorem p_is_sure_or_mixed (S : SaysE P fa fn cls "ClueError" tf K mg base T) : Prm P w K mg base T 4 "is_sure_or_mixed" ["game", "thing"] .froz F_is_sure_or_mixed := by
  have p_is_integer := p_is_integer (P := P) (w := w) (base := base) (T := T) S
  have p_is_tuple := p_is_tuple (P := P) (w := w) (base := base) (T := T) S
  have p_check_game := p_check_game (P := P) (w := w) (base := base) (T := T) S
  have p_sure_places := p_sure_places (P := P) (w := w) (base := base) (T := T) S
  refine prm_of (N := ["game", "thing", "some", ".0", "one"]) (m := M_is_sure_or_mixed) S.s 6 6 (d := mkD "is_sure_or_mixed" 13) (by kernel_rfl) (by kernel_rfl) rfl rfl rfl ⟨by kernel_rfl, by kernel_rfl, by kernel_rfl, by decide +kernel, by kernel_rfl, by decide +kernel, by decide +kernel⟩ (fun _ _ _ _ _ _ us hl => match us, hl with | [_, _], _ => rfl) fun f cd A outer s W E hT G hp => ?_
  subst hT
  exact (ss_cons (ss_drop (se_callP G p_check_game (by decide) (gl_of (by kernel_rfl)) (sa_cons (se_var (i := 0) (by kernel_rfl) (.inl (by kernel_rfl))) sa_nil) (ln_cons ln_nil))) (ss_cons (ss_if (SW.st (sw_or (st_not (st_val (se_callP G p_is_tuple (by decide) (gl_of (by kernel_rfl)) (sa_cons (se_var (i := 1) (by kernel_rfl) (.inl (by kernel_rfl))) (sa_cons se_int (sa_cons se_int sa_nil))) (ln_cons (ln_cons (ln_cons ln_nil)))))) (sw_or1 (st_not (st_val (se_isa isa_str G.sys (gl_of (by kernel_rfl)) (S.no 33 (by kernel_rfl)) (gl_of (by kernel_rfl)) (S.no 41 (by kernel_rfl)) (by kernel_rfl) (se_ix (se_var (i := 1) (by kernel_rfl) (.inl (by kernel_rfl))) se_int (fun _ _ => rfl)))))))) (ss_one (ss_retF se_bl)) ss_nil) (ss_cons (ss_set (i := 2) ⟨(by exact G.nd), (by kernel_rfl), .inl (by kernel_rfl), .inl rfl⟩ (se_callP G p_sure_places (by decide) (gl_of (by kernel_rfl)) (sa_cons (se_var (i := 0) (by kernel_rfl) (.inl (by kernel_rfl))) sa_nil) (ln_cons ln_nil))) (ss_cons (ss_if (st_cmp (sop_eq G.sys G.un) (se_ix (se_var (i := 1) (by kernel_rfl) (.inl (by kernel_rfl))) se_int (fun _ _ => rfl)) se_str (nomark _)) (ss_one (ss_retF (se_and (se_cmp (sop_eq G.sys G.un) (se_fnB sf_len (gl_of (by kernel_rfl)) (S.no 34 (by kernel_rfl)) (by kernel_rfl) (sb_cons (se_var (i := 1) (by kernel_rfl) (.inl (by kernel_rfl))) sb_nil)) se_int (nomark _)) (se_one (se_cmp (sop_eq G.sys G.un) (se_fnB sf_len (gl_of (by kernel_rfl)) (S.no 34 (by kernel_rfl)) (by kernel_rfl) (sb_cons (se_var (i := 2) (by kernel_rfl) (.inl (by kernel_rfl))) sb_nil)) se_int (nomark _)))))) ss_nil) (ss_cons (ss_if (SW.st (sw_or (st_cmp (sop_ne G.sys G.un) (se_ix (se_var (i := 1) (by kernel_rfl) (.inl (by kernel_rfl))) se_int (fun _ _ => rfl)) se_str (nomark _)) (sw_or1 (st_cmp (sop_ne G.sys G.un) (se_fnB sf_len (gl_of (by kernel_rfl)) (S.no 34 (by kernel_rfl)) (by kernel_rfl) (sb_cons (se_var (i := 1) (by kernel_rfl) (.inl (by kernel_rfl))) sb_nil)) se_int (nomark _))))) (ss_one (ss_retF se_bl)) ss_nil) (ss_one (ss_retF (se_and (se_fnB (sf_all G.calm G.sys) (gl_of (by kernel_rfl)) (S.no 28 (by kernel_rfl)) (by kernel_rfl) (sb_cons (se_lc (own := [(".0", 3), ("one", 4)]) (is := [4]) G.calm G.nd (blkOk_by (by kernel_rfl)) (by decide) (si_seq (se_slA (se_var (i := 1) (by kernel_rfl) (.inl (by kernel_rfl))) (so_at se_int) so_no)) (fun _ _ _ _ _ => (sg_nm (i := 4) ⟨(by exact G.nd), (by kernel_rfl), .inl (by kernel_rfl), .inr (by kernel_rfl)⟩)) (fun _ _ _ _ _ => sts_nil) (fun _ _ _ _ _ => (se_callP (G.blk _ _ _ _ _ _) p_is_integer (by decide) (gl_of (by kernel_rfl)) (sa_cons (se_var (i := 4) (by kernel_rfl) (.inl (by kernel_rfl))) sa_nil) (ln_cons ln_nil)))) sb_nil)) (se_one (se_cmp (sop_in G.sys G.un) (se_slA (se_var (i := 1) (by kernel_rfl) (.inl (by kernel_rfl))) (so_at se_int) so_no) (se_var (i := 2) (by kernel_rfl) (.inl (by kernel_rfl))) (by with_unfolding_all rfl)))))))))))
def M_floor_of : Sx := (sSeq (sDrop (eFn F_check_game (lCons (eVar 0) lNil))) (sRet (eFn (g1 fun d => lift (maxD' d)) (lCons (eLc [1, 2] (iSeq (eVar 0)) (gNm 2) tYesS (eFn (g1 fun d => lift (minD' d)) (lCons (eVar 2) lNil))) lNil))))
def F_floor_of : Fx := callS .froz M_floor_of
theorem p_floor_of (S : SaysE P fa fn cls "ClueError" tf K mg base T) : Prm P w K mg base T 4 "floor_of" ["game"] .froz F_floor_of := by
  have p_check_game := p_check_game (P := P) (w := w) (base := base) (T := T) S
  refine prm_of (N := ["game", ".0", "row"]) (m := M_floor_of) S.s 7 7 (d := mkD "floor_of" 14) (by kernel_rfl) (by kernel_rfl) rfl rfl rfl ⟨by kernel_rfl, by kernel_rfl, by kernel_rfl, by decide +kernel, by kernel_rfl, by decide +kernel, by decide +kernel⟩ (fun _ _ _ _ _ _ us hl => match us, hl with | [_], _ => rfl) fun f cd A outer s W E hT G hp => ?_
  subst hT
  exact (ss_cons (ss_drop (se_callP G p_check_game (by decide) (gl_of (by kernel_rfl)) (sa_cons (se_var (i := 0) (by kernel_rfl) (.inl (by kernel_rfl))) sa_nil) (ln_cons ln_nil))) (ss_one (ss_retF (se_fnB (sf_max G.calm G.sys G.un) (gl_of (by kernel_rfl)) (S.no 36 (by kernel_rfl)) (by kernel_rfl) (sb_cons (se_lc (own := [(".0", 1), ("row", 2)]) (is := [2]) G.calm G.nd (blkOk_by (by kernel_rfl)) (by decide) (si_seq (se_var (i := 0) (by kernel_rfl) (.inl (by kernel_rfl)))) (fun _ _ _ _ _ => (sg_nm (i := 2) ⟨(by exact G.nd), (by kernel_rfl), .inl (by kernel_rfl), .inr (by kernel_rfl)⟩)) (fun _ _ _ _ _ => sts_nil) (fun _ _ _ _ _ => (se_fnB (sf_min G.calm G.sys G.un) (gl_of (by kernel_rfl)) (S.no 37 (by kernel_rfl)) (by kernel_rfl) (sb_cons (se_var (i := 2) (by kernel_rfl) (.inl (by kernel_rfl))) sb_nil)))) sb_nil)))))
def M_ceiling_of : Sx := (sSeq (sDrop (eFn F_check_game (lCons (eVar 0) lNil))) (sRet (eFn (g1 fun d => lift (minD' d)) (lCons (eLc [1, 2] (iRng1S (eFn (g1 fun d => lift (lenD d)) (lCons (eBin ixD (eVar 0) (eC (.int 0))) lNil))) (gNm 2) tYesS (eFn (g1 fun d => lift (maxD' d)) (lCons (eLc [1, 3] (iSeq (eVar 0)) (gNm 3) tYesS (eBin ixD (eVar 3) (eVar 2))) lNil))) lNil))))
def F_ceiling_of : Fx := callS .froz M_ceiling_of
theorem p_ceiling_of (S : SaysE P fa fn cls "ClueError" tf K mg base T) : Prm P w K mg base T 4 "ceiling_of" ["game"] .froz F_ceiling_of := by
  have p_check_game := p_check_game (P := P) (w := w) (base := base) (T := T) S
  refine prm_of (N := ["game", ".0", "j", "row"]) (m := M_ceiling_of) S.s 8 8 (d := mkD "ceiling_of" 15) (by kernel_rfl) (by kernel_rfl) rfl rfl rfl ⟨by kernel_rfl, by kernel_rfl, by kernel_rfl, by decide +kernel, by kernel_rfl, by decide +kernel, by decide +kernel⟩ (fun _ _ _ _ _ _ us hl => match us, hl with | [_], _ => rfl) fun f cd A outer s W E hT G hp => ?_
  subst hT
  exact (ss_cons (ss_drop (se_callP G p_check_game (by decide) (gl_of (by kernel_rfl)) (sa_cons (se_var (i := 0) (by kernel_rfl) (.inr (.inl (by kernel_rfl)))) sa_nil) (ln_cons ln_nil))) (ss_one (ss_retF (se_fnB (sf_min G.calm G.sys G.un) (gl_of (by kernel_rfl)) (S.no 37 (by kernel_rfl)) (by kernel_rfl) (sb_cons (se_lc (own := [(".0", 1), ("j", 2)]) (is := [2]) G.calm G.nd (blkOk_by (by kernel_rfl)) (by decide) (si_rng1 (gl_of (by kernel_rfl)) (S.no 38 (by kernel_rfl)) (se_fnB sf_len (gl_of (by kernel_rfl)) (S.no 34 (by kernel_rfl)) (by kernel_rfl) (sb_cons (se_ix (se_var (i := 0) (by kernel_rfl) (.inr (.inl (by kernel_rfl)))) se_int (fun _ _ => rfl)) sb_nil))) (fun _ _ _ _ _ => (sg_nm (i := 2) ⟨(by exact G.nd), (by kernel_rfl), .inr (by kernel_rfl), .inl (by kernel_rfl)⟩)) (fun _ _ _ _ _ => sts_nil) (fun _ _ _ _ _ => (se_fnB (sf_max G.calm G.sys G.un) (gl_of (by kernel_rfl)) (S.no 36 (by kernel_rfl)) (by kernel_rfl) (sb_cons (se_lc (own := [(".0", 1), ("row", 3)]) (is := [3]) G.calm G.nd (blkOk_by (by kernel_rfl)) (by decide) (si_seq (se_var (i := 0) (by kernel_rfl) (.inr (.inl (by kernel_rfl))))) (fun _ _ _ _ _ => (sg_nm (i := 3) ⟨(by exact G.nd), (by kernel_rfl), .inl (by kernel_rfl), .inr (by kernel_rfl)⟩)) (fun _ _ _ _ _ => sts_nil) (fun _ _ _ _ _ => (se_ix (se_var (i := 3) (by kernel_rfl) (.inl (by kernel_rfl))) (se_var (i := 2) (by kernel_rfl) (.inr (.inl (by kernel_rfl)))) (fun _ _ => rfl)))) sb_nil)))) sb_nil)))))
def M_worse_rows : Sx := (sSeq (sDrop (eFn F_check_game (lCons (eVar 0) lNil))) (sRet (eFn (g1 fun d => lift (tupD d)) (lCons (eLc [1, 2, 3] (iEnumS (eVar 0)) (gTp (gCs (gNm 2) (gCs (gNm 3) gNl))) (tV (eFn (g1 fun d => lift (anyD d)) (lCons (eLc [1, 4] (iSeq (eVar 0)) (gNm 4) tYesS (eFn F_is_worse (lCons (eVar 3) (lCons (eVar 4) lNil)))) lNil))) (eVar 2)) lNil))))
def F_worse_rows : Fx := callS .froz M_worse_rows
theorem p_worse_rows (S : SaysE P fa fn cls "ClueError" tf K mg base T) : Prm P w K mg base T 4 "worse_rows" ["game"] .froz F_worse_rows := by
  have p_check_game := p_check_game (P := P) (w := w) (base := base) (T := T) S
  have p_is_worse := p_is_worse (P := P) (w := w) (base := base) (T := T) S
  refine prm_of (N := ["game", ".0", "i", "row", "other"]) (m := M_worse_rows) S.s 10 10 (d := mkD "worse_rows" 17) (by kernel_rfl) (by kernel_rfl) rfl rfl rfl ⟨by kernel_rfl, by kernel_rfl, by kernel_rfl, by decide +kernel, by kernel_rfl, by decide +kernel, by decide +kernel⟩ (fun _ _ _ _ _ _ us hl => match us, hl with | [_], _ => rfl) fun f cd A outer s W E hT G hp => ?_
  subst hT
  exact (ss_cons (ss_drop (se_callP G p_check_game (by decide) (gl_of (by kernel_rfl)) (sa_cons (se_var (i := 0) (by kernel_rfl) (.inr (.inl (by kernel_rfl)))) sa_nil) (ln_cons ln_nil))) (ss_one (ss_retF (se_fnT sf_tup (gl_of (by kernel_rfl)) (S.no 43 (by kernel_rfl)) (by kernel_rfl) (sb_cons (se_lc (own := [(".0", 1), ("i", 2), ("row", 3)]) (is := [2, 3]) G.calm G.nd (blkOk_by (by kernel_rfl)) (by decide) (si_enum (gl_of (by kernel_rfl)) (S.no 31 (by kernel_rfl)) (se_var (i := 0) (by kernel_rfl) (.inr (.inl (by kernel_rfl))))) (fun _ _ _ _ _ => (sg_tup (n := 2) (by exact G.calm) (sg_cons (sg_nm (i := 2) ⟨(by exact G.nd), (by kernel_rfl), .inl (by kernel_rfl), .inr (by kernel_rfl)⟩) (sg_cons (sg_nm (i := 3) ⟨(by exact G.nd), (by kernel_rfl), .inr (by kernel_rfl), .inl (by kernel_rfl)⟩) sg_nil)) (gl_len_cons (gl_len_cons gl_len_nil)))) (fun _ _ _ _ _ => (sts_one (st_val (se_fnB (sf_any G.calm G.sys) (gl_of (by kernel_rfl)) (S.no 29 (by kernel_rfl)) (by kernel_rfl) (sb_cons (se_lc (own := [(".0", 1), ("other", 4)]) (is := [4]) G.calm G.nd (blkOk_by (by kernel_rfl)) (by decide) (si_seq (se_var (i := 0) (by kernel_rfl) (.inr (.inl (by kernel_rfl))))) (fun _ _ _ _ _ => (sg_nm (i := 4) ⟨(by exact G.nd), (by kernel_rfl), .inl (by kernel_rfl), .inr (by kernel_rfl)⟩)) (fun _ _ _ _ _ => sts_nil) (fun _ _ _ _ _ => (se_callP ((G.blk _ _ _ _ _ _).blk _ _ _ _ _ _) p_is_worse (by decide) (gl_of (by kernel_rfl)) (sa_cons (se_var (i := 3) (by kernel_rfl) (.inr (.inl (by kernel_rfl)))) (sa_cons (se_var (i := 4) (by kernel_rfl) (.inl (by kernel_rfl))) sa_nil)) (ln_cons (ln_cons ln_nil))))) sb_nil))))) (fun _ _ _ _ _ => (se_var (i := 2) (by kernel_rfl) (.inl (by kernel_rfl))))) sb_nil)))))
def M_turned_game : Sx := (sSeq (sDrop (eFn F_check_game (lCons (eVar 0) lNil))) (sRet (eFn (g1 fun d => lift (tupD d)) (lCons (eLc [1, 2] (iRng1S (eFn (g1 fun d => lift (lenD d)) (lCons (eBin ixD (eVar 0) (eC (.int 0))) lNil))) (gNm 2) tYesS (eFn (g1 fun d => lift (tupD d)) (lCons (eLc [1, 3] (iSeq (eVar 0)) (gNm 3) tYesS (eBin (pur subD) (eC (.int 0)) (eBin ixD (eVar 3) (eVar 2)))) lNil))) lNil))))
def F_turned_game : Fx := callS .froz M_turned_game
theorem p_turned_game (S : SaysE P fa fn cls "ClueError" tf K mg base T) : Prm P w K mg base T 4 "turned_game" ["game"] .froz F_turned_game := by
  have p_check_game := p_check_game (P := P) (w := w) (base := base) (T := T) S
  refine prm_of (N := ["game", ".0", "j", "row"]) (m := M_turned_game) S.s 11 11 (d := mkD "turned_game" 18) (by kernel_rfl) (by kernel_rfl) rfl rfl rfl ⟨by kernel_rfl, by kernel_rfl, by kernel_rfl, by decide +kernel, by kernel_rfl, by decide +kernel, by decide +kernel⟩ (fun _ _ _ _ _ _ us hl => match us, hl with | [_], _ => rfl) fun f cd A outer s W E hT G hp => ?_
  subst hT
  exact (ss_cons (ss_drop (se_callP G p_check_game (by decide) (gl_of (by kernel_rfl)) (sa_cons (se_var (i := 0) (by kernel_rfl) (.inr (.inl (by kernel_rfl)))) sa_nil) (ln_cons ln_nil))) (ss_one (ss_retF (se_fnT sf_tup (gl_of (by kernel_rfl)) (S.no 43 (by kernel_rfl)) (by kernel_rfl) (sb_cons (se_lc (own := [(".0", 1), ("j", 2)]) (is := [2]) G.calm G.nd (blkOk_by (by kernel_rfl)) (by decide) (si_rng1 (gl_of (by kernel_rfl)) (S.no 38 (by kernel_rfl)) (se_fnB sf_len (gl_of (by kernel_rfl)) (S.no 34 (by kernel_rfl)) (by kernel_rfl) (sb_cons (se_ix (se_var (i := 0) (by kernel_rfl) (.inr (.inl (by kernel_rfl)))) se_int (fun _ _ => rfl)) sb_nil))) (fun _ _ _ _ _ => (sg_nm (i := 2) ⟨(by exact G.nd), (by kernel_rfl), .inr (by kernel_rfl), .inl (by kernel_rfl)⟩)) (fun _ _ _ _ _ => sts_nil) (fun _ _ _ _ _ => (se_fnT sf_tup (gl_of (by kernel_rfl)) (S.no 43 (by kernel_rfl)) (by kernel_rfl) (sb_cons (se_lc (own := [(".0", 1), ("row", 3)]) (is := [3]) G.calm G.nd (blkOk_by (by kernel_rfl)) (by decide) (si_seq (se_var (i := 0) (by kernel_rfl) (.inr (.inl (by kernel_rfl))))) (fun _ _ _ _ _ => (sg_nm (i := 3) ⟨(by exact G.nd), (by kernel_rfl), .inl (by kernel_rfl), .inr (by kernel_rfl)⟩)) (fun _ _ _ _ _ => sts_nil) (fun _ _ _ _ _ => (se_bin sop_sub se_int (se_ix (se_var (i := 3) (by kernel_rfl) (.inl (by kernel_rfl))) (se_var (i := 2) (by kernel_rfl) (.inr (.inl (by kernel_rfl)))) (fun _ _ => rfl))))) sb_nil)))) sb_nil)))))
abbrev tl1 : List (Str × Fx) := [("sure_or_mixed", F_sure_or_mixed), ("floor_of", F_floor_of), ("ceiling_of", F_ceiling_of), ("worse_rows", F_worse_rows), ("turned_game", F_turned_game)]
def M__law_word : Sx := (sSeq (sTryL (eCallV 0 (fxTab tl1) (lCons (eVar 1) lNil)) 2 [("NoGame", fun a => (sRet (eIf (tAnd' (tV (eIsE 2 a true)) (tV (eIsE 2 a true))) (eC (.str "game")) (eC (.str "other")))))]) (sRet (eC (.str "said"))))
def F__law_word : Fx := callS .froz M__law_word
theorem p__law_word (S : SaysE P fa fn cls "ClueError" tf K mg base T) : Prm P w K mg base T 5 "_law_word" ["ask", "game"] .froz F__law_word := by
  have p_sure_or_mixed := p_sure_or_mixed (P := P) (w := w) (base := base) (T := T) S
  have p_floor_of := p_floor_of (P := P) (w := w) (base := base) (T := T) S
  have p_ceiling_of := p_ceiling_of (P := P) (w := w) (base := base) (T := T) S
  have p_worse_rows := p_worse_rows (P := P) (w := w) (base := base) (T := T) S
  have p_turned_game := p_turned_game (P := P) (w := w) (base := base) (T := T) S
  refine prm_of (N := ["ask", "game", "fault"]) (m := M__law_word) S.s 19 19 (d := mkD "_law_word" 27) (by kernel_rfl) (by kernel_rfl) rfl rfl rfl ⟨by kernel_rfl, by kernel_rfl, by kernel_rfl, by decide +kernel, by kernel_rfl, by decide +kernel, by decide +kernel⟩ (fun _ _ _ _ _ _ us hl => match us, hl with | [_, _], _ => rfl) fun f cd A outer s W E hT G hp => ?_
  subst hT
  exact (ss_cons (ss_tryL (i := 2) G rfl rfl ⟨(by exact G.nd), (by kernel_rfl), .inl (by kernel_rfl), .inl rfl⟩ (by kernel_rfl) (gl_of (by kernel_rfl)) S.hce (fun W pn xe tk => have G := G.tr (W := W) (pn := pn) (xe := xe) tk; (se_callV G (tab_cons p_sure_or_mixed (by decide) rfl (tab_cons p_floor_of (by decide) rfl (tab_cons p_ceiling_of (by decide) rfl (tab_cons p_worse_rows (by decide) rfl (tab_cons p_turned_game (by decide) rfl tab_nil))))) (by kernel_rfl) (.inl (by kernel_rfl)) (sa_cons (se_var (i := 1) (by kernel_rfl) (.inl (by kernel_rfl))) sa_nil) (ln_cons ln_nil))) (S.hm rfl) (hsu_cons (S.cl _ (S.mem (j := 0) (d := c_NoGame) rfl)) (fun a oe pn hz hf => have G := G.su a oe pn; (ss_one (ss_retF (se_if (SW.st (sw_and (st_val (se_isE (S.sup _ (S.mem (j := 0) (d := c_NoGame) rfl)).2 hz hf (by kernel_rfl) (.inl (by kernel_rfl)) (gl_of (by kernel_rfl)) (S.no 33 (by kernel_rfl)) (gl_of (by kernel_rfl)) (S.cl _ (S.mem (j := 0) (d := c_NoGame) rfl)) (kitE ((S.kit _ (S.mem (j := 0) (d := c_NoGame) rfl)).2 _ (S.mem (j := 0) (d := c_NoGame) rfl)) (by decide)))) (sw_and1 (st_val (se_isT (S.sup _ (S.mem (j := 0) (d := c_NoGame) rfl)).2 hz hf (by kernel_rfl) (.inl (by kernel_rfl)) (gl_of (by kernel_rfl)) (S.no 33 (by kernel_rfl)) (gl_of (by kernel_rfl)) (S.no 26 (by kernel_rfl)) (by kernel_rfl) (kitE (S.kit _ (S.mem (j := 0) (d := c_NoGame) rfl)).1 rfl)))))) se_str se_str)))) hsu_nil)) (ss_one (ss_retF se_str)))
def M__law_judged_word : Sx := (sSeq (sTryL (eFn F_is_sure_or_mixed (lCons (eVar 0) (lCons (eTup (lCons (eC (.str "mixed")) lNil)) lNil))) 1 [("NoGame", fun a => (sRet (eIf (tAnd' (tV (eIsE 1 a true)) (tV (eIsE 1 a true))) (eC (.str "game")) (eC (.str "other")))))]) (sRet (eC (.str "said"))))
def F__law_judged_word : Fx := callS .froz M__law_judged_word
theorem p__law_judged_word (S : SaysE P fa fn cls "ClueError" tf K mg base T) : Prm P w K mg base T 5 "_law_judged_word" ["game"] .froz F__law_judged_word := by
  have p_is_sure_or_mixed := p_is_sure_or_mixed (P := P) (w := w) (base := base) (T := T) S
  refine prm_of (N := ["game", "fault"]) (m := M__law_judged_word) S.s 20 20 (d := mkD "_law_judged_word" 28) (by kernel_rfl) (by kernel_rfl) rfl rfl rfl ⟨by kernel_rfl, by kernel_rfl, by kernel_rfl, by decide +kernel, by kernel_rfl, by decide +kernel, by decide +kernel⟩ (fun _ _ _ _ _ _ us hl => match us, hl with | [_], _ => rfl) fun f cd A outer s W E hT G hp => ?_
  subst hT
  exact (ss_cons (ss_tryL (i := 1) G rfl rfl ⟨(by exact G.nd), (by kernel_rfl), .inl (by kernel_rfl), .inl rfl⟩ (by kernel_rfl) (gl_of (by kernel_rfl)) S.hce (fun W pn xe tk => have G := G.tr (W := W) (pn := pn) (xe := xe) tk; (se_callP G p_is_sure_or_mixed (by decide) (gl_of (by kernel_rfl)) (sa_cons (se_var (i := 0) (by kernel_rfl) (.inl (by kernel_rfl))) (sa_cons (se_tup (sa_cons se_str sa_nil) (ln_cons ln_nil)) sa_nil)) (ln_cons (ln_cons ln_nil)))) (S.hm rfl) (hsu_cons (S.cl _ (S.mem (j := 0) (d := c_NoGame) rfl)) (fun a oe pn hz hf => have G := G.su a oe pn; (ss_one (ss_retF (se_if (SW.st (sw_and (st_val (se_isE (S.sup _ (S.mem (j := 0) (d := c_NoGame) rfl)).2 hz hf (by kernel_rfl) (.inl (by kernel_rfl)) (gl_of (by kernel_rfl)) (S.no 33 (by kernel_rfl)) (gl_of (by kernel_rfl)) (S.cl _ (S.mem (j := 0) (d := c_NoGame) rfl)) (kitE ((S.kit _ (S.mem (j := 0) (d := c_NoGame) rfl)).2 _ (S.mem (j := 0) (d := c_NoGame) rfl)) (by decide)))) (sw_and1 (st_val (se_isT (S.sup _ (S.mem (j := 0) (d := c_NoGame) rfl)).2 hz hf (by kernel_rfl) (.inl (by kernel_rfl)) (gl_of (by kernel_rfl)) (S.no 33 (by kernel_rfl)) (gl_of (by kernel_rfl)) (S.no 26 (by kernel_rfl)) (by kernel_rfl) (kitE (S.kit _ (S.mem (j := 0) (d := c_NoGame) rfl)).1 rfl)))))) se_str se_str)))) hsu_nil)) (ss_one (ss_retF se_str)))
def M__law_are_refused : Sx := (sSeq (sSet 2 (eBin ixD (eVar 1) (eC (.int 0)))) (sSeq (sSet 3 (eFn F__law_any (lCons (eVar 0) (lCons (eLst (lCons (eC (.int 21)) (lCons (eNeg (eC (.int 21))) (lCons (eC .non) (lCons (eC (.bl true)) (lCons (eC (.str "1")) (lCons (eTup (lCons (eC (.int 1)) lNil)) (lCons (eFn F__law_deep (lCons (eVar 0) lNil)) lNil)))))))) lNil)))) (sSeq (sSet 4 (eLst (lCons (eTup lNil) (lCons (eTup (lCons (eTup lNil) lNil)) (lCons (eFn (g1 fun d => lift (listD d)) (lCons (eVar 1) lNil)) (lCons (eBin (pur addA) (eVar 1) (eTup (lCons (eBin (pur addA) (eVar 2) (eTup (lCons (eC (.int 0)) lNil))) lNil))) (lCons (eBin (pur mulX) (eTup (lCons (eVar 2) lNil)) (eC (.int 4))) (lCons (eTup (lCons (eTup (lCons (eC (.int 1)) (lCons (eC (.int 2)) (lCons (eC (.int 3)) (lCons (eC (.int 4)) lNil))))) lNil)) (lCons (eBin (pur addA) (eTup (lCons (eFn (g1 fun d => lift (listD d)) (lCons (eVar 2) lNil)) lNil)) (eSl slA (eVar 1) (pAt (eC (.int 1))) pNo)) (lCons (eC .non) lNil)))))))))) (sSeq (sSet 5 (eFn F__law_any (lCons (eVar 0) (lCons (eBin (pur addA) (eVar 4) (eLst (lCons (eBin (pur addA) (eTup (lCons (eBin (pur addA) (eTup (lCons (eVar 3) lNil)) (eSl slA (eVar 2) (pAt (eC (.int 1))) pNo)) lNil)) (eSl slA (eVar 1) (pAt (eC (.int 1))) pNo)) (lCons (eC (.str "?")) (lCons (eC (.dct [])) (lCons (eVar 2) (lCons (eFn F__law_deep (lCons (eVar 0) lNil)) lNil))))))) lNil)))) (sSeq (sSet 6 (eTup (lCons (eC (.glo "sure_or_mixed")) (lCons (eC (.glo "floor_of")) (lCons (eC (.glo "ceiling_of")) (lCons (eC (.glo "worse_rows")) (lCons (eC (.glo "turned_game")) lNil))))))) (sRet (eAnd (eBin (pur eqD) (eLc [7, 8] (iSeq (eVar 6)) (gNm 8) tYesS (eFn F__law_word (lCons (eVar 8) (lCons (eVar 5) lNil)))) (eBin (pur mulA) (eLst (lCons (eC (.str "game")) lNil)) (eC (.int 5)))) (eBin (pur eqD) (eFn F__law_judged_word (lCons (eVar 5) lNil)) (eC (.str "game"))))))))))
def F__law_are_refused : Fx := callS .froz M__law_are_refused
theorem p__law_are_refused (S : SaysE P fa fn cls "ClueError" tf K mg base T) : Prm P w K mg base T 6 "_law_are_refused" ["hand", "game"] .froz F__law_are_refused := by
  have p__law_any := p__law_any (P := P) (w := w) (base := base) (T := T) S
  have p__law_deep := p__law_deep (P := P) (w := w) (base := base) (T := T) S
  have p__law_word := p__law_word (P := P) (w := w) (base := base) (T := T) S
  have p__law_judged_word := p__law_judged_word (P := P) (w := w) (base := base) (T := T) S
  refine prm_of (N := ["hand", "game", "row", "odd", "some", "bad", "asks", ".0", "ask"]) (m := M__law_are_refused) S.s 22 22 (d := mkD "_law_are_refused" 30) (by kernel_rfl) (by kernel_rfl) rfl rfl rfl ⟨by kernel_rfl, by kernel_rfl, by kernel_rfl, by decide +kernel, by kernel_rfl, by decide +kernel, by decide +kernel⟩ (fun _ _ _ _ _ _ us hl => match us, hl with | [_, _], _ => rfl) fun f cd A outer s W E hT G hp => ?_
  subst hT
  exact (ss_cons (ss_set (i := 2) ⟨(by exact G.nd), (by kernel_rfl), .inl (by kernel_rfl), .inl rfl⟩ (se_ix (se_var (i := 1) (by kernel_rfl) (.inl (by kernel_rfl))) se_int (fun _ _ => rfl))) (ss_cons (ss_set (i := 3) ⟨(by exact G.nd), (by kernel_rfl), .inl (by kernel_rfl), .inl rfl⟩ (se_callP G p__law_any (by decide) (gl_of (by kernel_rfl)) (sa_cons (se_var (i := 0) (by kernel_rfl) (.inl (by kernel_rfl))) (sa_cons (SE.froz (se_lst (sa_cons se_int (sa_cons (se_neg se_int) (sa_cons se_non (sa_cons se_bl (sa_cons se_str (sa_cons (se_tup (sa_cons se_int sa_nil) (ln_cons ln_nil)) (sa_cons (se_callP G p__law_deep (by decide) (gl_of (by kernel_rfl)) (sa_cons (se_var (i := 0) (by kernel_rfl) (.inl (by kernel_rfl))) sa_nil) (ln_cons ln_nil)) sa_nil))))))) (ln_cons (ln_cons (ln_cons (ln_cons (ln_cons (ln_cons (ln_cons ln_nil))))))))) sa_nil)) (ln_cons (ln_cons ln_nil)))) (ss_cons (ss_set (i := 4) ⟨(by exact G.nd), (by kernel_rfl), .inl (by kernel_rfl), .inl rfl⟩ (SE.froz (se_lst (sa_cons (se_tup sa_nil ln_nil) (sa_cons (se_tup (sa_cons (se_tup sa_nil ln_nil) sa_nil) (ln_cons ln_nil)) (sa_cons (SE.froz (se_fnT sf_list (gl_of (by kernel_rfl)) (S.no 35 (by kernel_rfl)) (by kernel_rfl) (sb_cons (se_var (i := 1) (by kernel_rfl) (.inl (by kernel_rfl))) sb_nil))) (sa_cons (se_bin sop_addA (se_var (i := 1) (by kernel_rfl) (.inl (by kernel_rfl))) (se_tup (sa_cons (se_bin sop_addA (se_var (i := 2) (by kernel_rfl) (.inl (by kernel_rfl))) (se_tup (sa_cons se_int sa_nil) (ln_cons ln_nil))) sa_nil) (ln_cons ln_nil))) (sa_cons (se_bin sop_mulX (se_tup (sa_cons (se_var (i := 2) (by kernel_rfl) (.inl (by kernel_rfl))) sa_nil) (ln_cons ln_nil)) se_int) (sa_cons (se_tup (sa_cons (se_tup (sa_cons se_int (sa_cons se_int (sa_cons se_int (sa_cons se_int sa_nil)))) (ln_cons (ln_cons (ln_cons (ln_cons ln_nil))))) sa_nil) (ln_cons ln_nil)) (sa_cons (se_bin sop_addA (se_tup (sa_cons (SE.froz (se_fnT sf_list (gl_of (by kernel_rfl)) (S.no 35 (by kernel_rfl)) (by kernel_rfl) (sb_cons (se_var (i := 2) (by kernel_rfl) (.inl (by kernel_rfl))) sb_nil))) sa_nil) (ln_cons ln_nil)) (se_slA (se_var (i := 1) (by kernel_rfl) (.inl (by kernel_rfl))) (so_at se_int) so_no)) (sa_cons se_non sa_nil)))))))) (ln_cons (ln_cons (ln_cons (ln_cons (ln_cons (ln_cons (ln_cons (ln_cons ln_nil))))))))))) (ss_cons (ss_set (i := 5) ⟨(by exact G.nd), (by kernel_rfl), .inr (by kernel_rfl), .inl rfl⟩ (se_callP G p__law_any (by decide) (gl_of (by kernel_rfl)) (sa_cons (se_var (i := 0) (by kernel_rfl) (.inl (by kernel_rfl))) (sa_cons (se_bin sop_addA (se_var (i := 4) (by kernel_rfl) (.inl (by kernel_rfl))) (se_lst (sa_cons (se_bin sop_addA (se_tup (sa_cons (se_bin sop_addA (se_tup (sa_cons (se_var (i := 3) (by kernel_rfl) (.inl (by kernel_rfl))) sa_nil) (ln_cons ln_nil)) (se_slA (se_var (i := 2) (by kernel_rfl) (.inl (by kernel_rfl))) (so_at se_int) so_no)) sa_nil) (ln_cons ln_nil)) (se_slA (se_var (i := 1) (by kernel_rfl) (.inl (by kernel_rfl))) (so_at se_int) so_no)) (sa_cons se_str (sa_cons (SE.froz se_dct0) (sa_cons (se_var (i := 2) (by kernel_rfl) (.inl (by kernel_rfl))) (sa_cons (se_callP G p__law_deep (by decide) (gl_of (by kernel_rfl)) (sa_cons (se_var (i := 0) (by kernel_rfl) (.inl (by kernel_rfl))) sa_nil) (ln_cons ln_nil)) sa_nil))))) (ln_cons (ln_cons (ln_cons (ln_cons (ln_cons ln_nil))))))) sa_nil)) (ln_cons (ln_cons ln_nil)))) (ss_cons (ss_set (i := 6) ⟨(by exact G.nd), (by kernel_rfl), .inl (by kernel_rfl), .inl rfl⟩ (se_tup (sa_cons (se_glo (S.go 5 (by kernel_rfl)) (gl_of (by kernel_rfl))) (sa_cons (se_glo (S.go 7 (by kernel_rfl)) (gl_of (by kernel_rfl))) (sa_cons (se_glo (S.go 8 (by kernel_rfl)) (gl_of (by kernel_rfl))) (sa_cons (se_glo (S.go 10 (by kernel_rfl)) (gl_of (by kernel_rfl))) (sa_cons (se_glo (S.go 11 (by kernel_rfl)) (gl_of (by kernel_rfl))) sa_nil))))) (ln_cons (ln_cons (ln_cons (ln_cons (ln_cons ln_nil))))))) (ss_one (ss_retF (se_and (se_cmp (sop_eq G.sys G.un) (se_lc (own := [(".0", 7), ("ask", 8)]) (is := [8]) G.calm G.nd (blkOk_by (by kernel_rfl)) (by decide) (si_seq (se_var (i := 6) (by kernel_rfl) (.inl (by kernel_rfl)))) (fun _ _ _ _ _ => (sg_nm (i := 8) ⟨(by exact G.nd), (by kernel_rfl), .inl (by kernel_rfl), .inr (by kernel_rfl)⟩)) (fun _ _ _ _ _ => sts_nil) (fun _ _ _ _ _ => (se_callP (G.blk _ _ _ _ _ _) p__law_word (by decide) (gl_of (by kernel_rfl)) (sa_cons (se_var (i := 8) (by kernel_rfl) (.inl (by kernel_rfl))) (sa_cons (se_var (i := 5) (by kernel_rfl) (.inr (.inl (by kernel_rfl)))) sa_nil)) (ln_cons (ln_cons ln_nil))))) (se_bin sop_mulA (se_lst (sa_cons se_str sa_nil) (ln_cons ln_nil)) se_int) (nomark _)) (se_one (se_cmp (sop_eq G.sys G.un) (se_callP G p__law_judged_word (by decide) (gl_of (by kernel_rfl)) (sa_cons (se_var (i := 5) (by kernel_rfl) (.inr (.inl (by kernel_rfl)))) sa_nil) (ln_cons ln_nil)) se_str (nomark _)))))))))))
def M__law_is_right : Sx := (sSeq (sSet 1 (eFn F__law_game (lCons (eVar 0) lNil))) (sSeq (sPar 2 3 (lCons (eFn (g1 fun d => lift (repD d)) (lCons (eVar 1) lNil)) (lCons (eFn F__law_sure (lCons (eVar 1) lNil)) lNil))) (sSeq (sSet 4 (eIf (tV (eBin (pur gtD) (eFn (g1 fun d => lift (lenD d)) (lCons (eVar 3) lNil)) (eC (.int 0)))) (eBin (pur addA) (eTup (lCons (eC (.str "sure")) lNil)) (eBin ixD (eVar 3) (eC (.int 0)))) (eTup (lCons (eC (.str "mixed")) lNil)))) (sSeq (sIf (tOr' (tV (eBin (pur neD) (eFn (g1 fun d => lift (repD d)) (lCons (eFn F_sure_or_mixed (lCons (eVar 1) lNil)) lNil)) (eFn (g1 fun d => lift (repD d)) (lCons (eVar 4) lNil)))) (tV (eBin (pur neD) (eFn (g1 fun d => lift (repD d)) (lCons (eVar 1) lNil)) (eVar 2)))) (sRet (eC (.bl false))) sNil) (sSeq (sAsg (gTp (gCs (gNm 5) (gCs (gNm 6) gNl))) (eTup (lCons (eFn (g1 fun d => lift (maxD' d)) (lCons (eLc [12, 14] (iSeq (eVar 1)) (gNm 14) tYesS (eFn (g1 fun d => lift (minD' d)) (lCons (eVar 14) lNil))) lNil)) (lCons (eFn (g1 fun d => lift (minD' d)) (lCons (eFn F__law_tops (lCons (eVar 1) lNil)) lNil)) lNil)))) (sSeq (sIf (tOr' (tV (eBin (pur neD) (eFn F_floor_of (lCons (eVar 1) lNil)) (eVar 5))) (tOr' (tV (eBin (pur neD) (eFn F_ceiling_of (lCons (eVar 1) lNil)) (eVar 6))) (tOr' (tV (eBin (pur gtD) (eVar 5) (eVar 6))) (tV (eBin (pur neD) (eBin (pur eqD) (eVar 5) (eVar 6)) (eBin (pur gtD) (eFn (g1 fun d => lift (lenD d)) (lCons (eVar 3) lNil)) (eC (.int 0)))))))) (sRet (eC (.bl false))) sNil) (sSeq (sIf (tNot' (tV (eFn (g1 fun d => lift (allD d)) (lCons (eLc [12, 13, 15] (iSeq (eVar 3)) (gTp (gCs (gNm 13) (gCs (gNm 15) gNl))) tYesS (eBin (pur eqD) (eBin ixD (eBin ixD (eVar 1) (eVar 13)) (eVar 15)) (eVar 5))) lNil)))) (sRet (eC (.bl false))) sNil) (sSeq (sSet 8 (eLc [12, 13, 14] (iEnumS (eVar 1)) (gTp (gCs (gNm 13) (gCs (gNm 14) gNl))) (tV (eFn (g1 fun d => lift (anyD d)) (lCons (eLc [12, 7] (iSeq (eVar 1)) (gNm 7) tYesS (eFn F__law_is_worse (lCons (eVar 14) (lCons (eVar 7) lNil)))) lNil))) (eVar 13))) (sSeq (sIf (tV (eBin (pur neD) (eFn (g1 fun d => lift (repD d)) (lCons (eFn F_worse_rows (lCons (eVar 1) lNil)) lNil)) (eFn (g1 fun d => lift (repD d)) (lCons (eFn (g1 fun d => lift (tupD d)) (lCons (eVar 8) lNil)) lNil)))) (sRet (eC (.bl false))) sNil) (sSeq (sSet 7 (eFn (g1 fun d => lift (tupD d)) (lCons (eLc [12, 15] (iRng1S (eFn (g1 fun d => lift (lenD d)) (lCons (eBin ixD (eVar 1) (eC (.int 0))) lNil))) (gNm 15) tYesS (eFn (g1 fun d => lift (tupD d)) (lCons (eLc [12, 14] (iSeq (eVar 1)) (gNm 14) tYesS (eBin (pur subD) (eC (.int 0)) (eBin ixD (eVar 14) (eVar 15)))) lNil))) lNil))) (sSeq (sIf (tOr' (tV (eBin (pur neD) (eFn F_turned_game (lCons (eVar 1) lNil)) (eVar 7))) (tV (eBin (pur neD) (eFn F_turned_game (lCons (eVar 7) lNil)) (eVar 1)))) (sRet (eC (.bl false))) sNil) (sSeq (sIf (tOr' (tV (eBin (pur neD) (eFn F_floor_of (lCons (eVar 7) lNil)) (eBin (pur subD) (eC (.int 0)) (eVar 6)))) (tV (eBin (pur neD) (eFn F_ceiling_of (lCons (eVar 7) lNil)) (eBin (pur subD) (eC (.int 0)) (eVar 5))))) (sRet (eC (.bl false))) sNil) (sSeq (sIf (tV (eBin (pur neD) (eFn (g1 fun d => lift (sortD d)) (lCons (eLc [12, 13, 15] (iSeq (eVar 3)) (gTp (gCs (gNm 13) (gCs (gNm 15) gNl))) tYesS (eTup (lCons (eVar 15) (lCons (eVar 13) lNil)))) lNil)) (eFn F__law_sure (lCons (eVar 7) lNil)))) (sRet (eC (.bl false))) sNil) (sSeq (sSet 9 (eLst (lCons (eVar 4) (lCons (eTup (lCons (eC (.str "mixed")) lNil)) (lCons (eTup (lCons (eC (.str "sure")) (lCons (eC (.int 0)) (lCons (eC (.int 0)) lNil)))) (lCons (eTup (lCons (eC (.str "sure")) (lCons (eBin (pur subD) (eFn (g1 fun d => lift (lenD d)) (lCons (eVar 1) lNil)) (eC (.int 1))) (lCons (eBin (pur subD) (eFn (g1 fun d => lift (lenD d)) (lCons (eBin ixD (eVar 1) (eC (.int 0))) lNil)) (eC (.int 1))) lNil)))) (lCons (eTup (lCons (eC (.str "sure")) (lCons (eC (.int 0)) lNil))) (lCons (eTup (lCons (eC (.str "Mixed")) lNil)) lNil)))))))) (sSeq (sSet 9 (eBin (pur addA) (eBin (pur addA) (eVar 9) (eLc [12, 16] (iSeq (eVar 3)) (gNm 16) tYesS (eBin (pur addA) (eTup (lCons (eC (.str "sure")) lNil)) (eVar 16)))) (eLst (lCons (eFn (g1 fun d => lift (listD d)) (lCons (eVar 4) lNil)) (lCons (eTup (lCons (eVar 4) lNil)) (lCons (eBin (pur addA) (eVar 4) (eTup (lCons (eC (.int 0)) lNil))) (lCons (eTup (lCons (eC (.str "sure")) (lCons (eC .non) (lCons (eC (.int 0)) lNil)))) (lCons (eTup lNil) lNil)))))))) (sSeq (sFor (iSeq (eBin (pur addA) (eVar 9) (eLst (lCons (eTup (lCons (eC (.str "sure")) (lCons (eNeg (eC (.int 1))) (lCons (eNeg (eC (.int 1))) lNil)))) (lCons (eTup (lCons (eC (.str "sure")) (lCons (eC (.str "0")) (lCons (eC (.int 0)) lNil)))) (lCons (eC .non) (lCons (eC (.int 0)) (lCons (eC (.dct [])) (lCons (eFn F__law_deep (lCons (eVar 0) lNil)) (lCons (eTup (lCons (eC (.str "mixed")) (lCons (eC (.int 0)) (lCons (eC (.int 0)) lNil)))) lNil)))))))))) (gNm 10) (sSeq (sPar 2 11 (lCons (eFn (g1 fun d => lift (repD d)) (lCons (eVar 10) lNil)) (lCons (eFn F__law_is_told (lCons (eVar 3) (lCons (eVar 10) lNil))) lNil))) (sIf (tOr' (tV (eBin (pur neD) (eFn (g1 fun d => lift (repD d)) (lCons (eFn F_is_sure_or_mixed (lCons (eVar 1) (lCons (eVar 10) lNil))) lNil)) (eFn (g1 fun d => lift (repD d)) (lCons (eVar 11) lNil)))) (tV (eBin (pur neD) (eFn (g1 fun d => lift (repD d)) (lCons (eVar 10) lNil)) (eVar 2)))) (sRet (eC (.bl false))) sNil))) (sRet (eFn F__law_are_refused (lCons (eVar 0) (lCons (eVar 1) lNil))))))))))))))))))))
def F__law_is_right : Fx := callS .froz M__law_is_right
theorem p__law_is_right (S : SaysE P fa fn cls "ClueError" tf K mg base T) : Prm P w K mg base T 7 "_law_is_right" ["hand"] .froz F__law_is_right := by
  have p_sure_or_mixed := p_sure_or_mixed (P := P) (w := w) (base := base) (T := T) S
  have p_is_sure_or_mixed := p_is_sure_or_mixed (P := P) (w := w) (base := base) (T := T) S
  have p_floor_of := p_floor_of (P := P) (w := w) (base := base) (T := T) S
  have p_ceiling_of := p_ceiling_of (P := P) (w := w) (base := base) (T := T) S
  have p_worse_rows := p_worse_rows (P := P) (w := w) (base := base) (T := T) S
  have p_turned_game := p_turned_game (P := P) (w := w) (base := base) (T := T) S
  have p__law_game := p__law_game (P := P) (w := w) (base := base) (T := T) S
  have p__law_sure := p__law_sure (P := P) (w := w) (base := base) (T := T) S
  have p__law_is_told := p__law_is_told (P := P) (w := w) (base := base) (T := T) S
  have p__law_deep := p__law_deep (P := P) (w := w) (base := base) (T := T) S
  have p__law_is_worse := p__law_is_worse (P := P) (w := w) (base := base) (T := T) S
  have p__law_are_refused := p__law_are_refused (P := P) (w := w) (base := base) (T := T) S
  have p__law_tops := p__law_tops (P := P) (w := w) (base := base) (T := T) S
  refine prm_of (N := ["hand", "game", "kept", "sure", "due", "low", "high", "other", "worse", "things", "thing", "flag", ".0", "i", "row", "j", "place"]) (m := M__law_is_right) S.s 23 23 (d := mkD "_law_is_right" 31) (by kernel_rfl) (by kernel_rfl) rfl rfl rfl ⟨by kernel_rfl, by kernel_rfl, by kernel_rfl, by decide +kernel, by kernel_rfl, by decide +kernel, by decide +kernel⟩ (fun _ _ _ _ _ _ us hl => match us, hl with | [_], _ => rfl) fun f cd A outer s W E hT G hp => ?_
  subst hT
  exact (ss_cons (ss_set (i := 1) ⟨(by exact G.nd), (by kernel_rfl), .inr (by kernel_rfl), .inl rfl⟩ (se_callP G p__law_game (by decide) (gl_of (by kernel_rfl)) (sa_cons (se_var (i := 0) (by kernel_rfl) (.inl (by kernel_rfl))) sa_nil) (ln_cons ln_nil))) (ss_cons (ss_par (i := 2) (j := 3) G.calm ⟨(by exact G.nd), (by kernel_rfl), .inl (by kernel_rfl), .inl rfl⟩ ⟨(by exact G.nd), (by kernel_rfl), .inl (by kernel_rfl), .inl rfl⟩ (by decide) (by kernel_rfl) (by kernel_rfl) (sa_cons (se_fnB (sf_repr G.sys G.un G.gu) (gl_of (by kernel_rfl)) (S.no 39 (by kernel_rfl)) (by kernel_rfl) (sb_cons (se_var (i := 1) (by kernel_rfl) (.inr (.inl (by kernel_rfl)))) sb_nil)) (sa_cons (se_callP G p__law_sure (by decide) (gl_of (by kernel_rfl)) (sa_cons (se_var (i := 1) (by kernel_rfl) (.inr (.inl (by kernel_rfl)))) sa_nil) (ln_cons ln_nil)) sa_nil)) (by kernel_rfl)) (ss_cons (ss_set (i := 4) ⟨(by exact G.nd), (by kernel_rfl), .inl (by kernel_rfl), .inl rfl⟩ (se_if (st_cmp (sop_gt G.sys G.un) (se_fnB sf_len (gl_of (by kernel_rfl)) (S.no 34 (by kernel_rfl)) (by kernel_rfl) (sb_cons (se_var (i := 3) (by kernel_rfl) (.inl (by kernel_rfl))) sb_nil)) se_int (nomark _)) (se_bin sop_addA (se_tup (sa_cons se_str sa_nil) (ln_cons ln_nil)) (se_ix (se_var (i := 3) (by kernel_rfl) (.inl (by kernel_rfl))) se_int (fun _ _ => rfl))) (se_tup (sa_cons se_str sa_nil) (ln_cons ln_nil)))) (ss_cons (ss_if (SW.st (sw_or (st_cmp (sop_ne G.sys G.un) (se_fnB (sf_repr G.sys G.un G.gu) (gl_of (by kernel_rfl)) (S.no 39 (by kernel_rfl)) (by kernel_rfl) (sb_cons (se_callP G p_sure_or_mixed (by decide) (gl_of (by kernel_rfl)) (sa_cons (se_var (i := 1) (by kernel_rfl) (.inr (.inl (by kernel_rfl)))) sa_nil) (ln_cons ln_nil)) sb_nil)) (se_fnB (sf_repr G.sys G.un G.gu) (gl_of (by kernel_rfl)) (S.no 39 (by kernel_rfl)) (by kernel_rfl) (sb_cons (se_var (i := 4) (by kernel_rfl) (.inl (by kernel_rfl))) sb_nil)) (nomark _)) (sw_or1 (st_cmp (sop_ne G.sys G.un) (se_fnB (sf_repr G.sys G.un G.gu) (gl_of (by kernel_rfl)) (S.no 39 (by kernel_rfl)) (by kernel_rfl) (sb_cons (se_var (i := 1) (by kernel_rfl) (.inr (.inl (by kernel_rfl)))) sb_nil)) (se_var (i := 2) (by kernel_rfl) (.inl (by kernel_rfl))) (nomark _))))) (ss_one (ss_retF se_bl)) ss_nil) (ss_cons (ss_asg (se_tup (sa_cons (se_fnB (sf_max G.calm G.sys G.un) (gl_of (by kernel_rfl)) (S.no 36 (by kernel_rfl)) (by kernel_rfl) (sb_cons (se_lc (own := [(".0", 12), ("row", 14)]) (is := [14]) G.calm G.nd (blkOk_by (by kernel_rfl)) (by decide) (si_seq (se_var (i := 1) (by kernel_rfl) (.inr (.inl (by kernel_rfl))))) (fun _ _ _ _ _ => (sg_nm (i := 14) ⟨(by exact G.nd), (by kernel_rfl), .inl (by kernel_rfl), .inr (by kernel_rfl)⟩)) (fun _ _ _ _ _ => sts_nil) (fun _ _ _ _ _ => (se_fnB (sf_min G.calm G.sys G.un) (gl_of (by kernel_rfl)) (S.no 37 (by kernel_rfl)) (by kernel_rfl) (sb_cons (se_var (i := 14) (by kernel_rfl) (.inl (by kernel_rfl))) sb_nil)))) sb_nil)) (sa_cons (se_fnB (sf_min G.calm G.sys G.un) (gl_of (by kernel_rfl)) (S.no 37 (by kernel_rfl)) (by kernel_rfl) (sb_cons (se_callP G p__law_tops (by decide) (gl_of (by kernel_rfl)) (sa_cons (se_var (i := 1) (by kernel_rfl) (.inr (.inl (by kernel_rfl)))) sa_nil) (ln_cons ln_nil)) sb_nil)) sa_nil)) (ln_cons (ln_cons ln_nil))) (sg_tup (n := 2) (by exact G.calm) (sg_cons (sg_nm (i := 5) ⟨(by exact G.nd), (by kernel_rfl), .inr (by kernel_rfl), .inl rfl⟩) (sg_cons (sg_nm (i := 6) ⟨(by exact G.nd), (by kernel_rfl), .inl (by kernel_rfl), .inl rfl⟩) sg_nil)) (gl_len_cons (gl_len_cons gl_len_nil)))) (ss_cons (ss_if (SW.st (sw_or (st_cmp (sop_ne G.sys G.un) (se_callP G p_floor_of (by decide) (gl_of (by kernel_rfl)) (sa_cons (se_var (i := 1) (by kernel_rfl) (.inr (.inl (by kernel_rfl)))) sa_nil) (ln_cons ln_nil)) (se_var (i := 5) (by kernel_rfl) (.inr (.inl (by kernel_rfl)))) (nomark _)) (sw_or (st_cmp (sop_ne G.sys G.un) (se_callP G p_ceiling_of (by decide) (gl_of (by kernel_rfl)) (sa_cons (se_var (i := 1) (by kernel_rfl) (.inr (.inl (by kernel_rfl)))) sa_nil) (ln_cons ln_nil)) (se_var (i := 6) (by kernel_rfl) (.inl (by kernel_rfl))) (nomark _)) (sw_or (st_cmp (sop_gt G.sys G.un) (se_var (i := 5) (by kernel_rfl) (.inr (.inl (by kernel_rfl)))) (se_var (i := 6) (by kernel_rfl) (.inl (by kernel_rfl))) (nomark _)) (sw_or1 (st_cmp (sop_ne G.sys G.un) (se_cmp (sop_eq G.sys G.un) (se_var (i := 5) (by kernel_rfl) (.inr (.inl (by kernel_rfl)))) (se_var (i := 6) (by kernel_rfl) (.inl (by kernel_rfl))) (nomark _)) (se_cmp (sop_gt G.sys G.un) (se_fnB sf_len (gl_of (by kernel_rfl)) (S.no 34 (by kernel_rfl)) (by kernel_rfl) (sb_cons (se_var (i := 3) (by kernel_rfl) (.inl (by kernel_rfl))) sb_nil)) se_int (nomark _)) (nomark _))))))) (ss_one (ss_retF se_bl)) ss_nil) (ss_cons (ss_if (st_not (st_val (se_fnB (sf_all G.calm G.sys) (gl_of (by kernel_rfl)) (S.no 28 (by kernel_rfl)) (by kernel_rfl) (sb_cons (se_lc (own := [(".0", 12), ("i", 13), ("j", 15)]) (is := [13, 15]) G.calm G.nd (blkOk_by (by kernel_rfl)) (by decide) (si_seq (se_var (i := 3) (by kernel_rfl) (.inl (by kernel_rfl)))) (fun _ _ _ _ _ => (sg_tup (n := 2) (by exact G.calm) (sg_cons (sg_nm (i := 13) ⟨(by exact G.nd), (by kernel_rfl), .inl (by kernel_rfl), .inr (by kernel_rfl)⟩) (sg_cons (sg_nm (i := 15) ⟨(by exact G.nd), (by kernel_rfl), .inl (by kernel_rfl), .inr (by kernel_rfl)⟩) sg_nil)) (gl_len_cons (gl_len_cons gl_len_nil)))) (fun _ _ _ _ _ => sts_nil) (fun _ _ _ _ _ => (se_cmp (sop_eq G.sys G.un) (se_ix (se_ix (se_var (i := 1) (by kernel_rfl) (.inr (.inl (by kernel_rfl)))) (se_var (i := 13) (by kernel_rfl) (.inl (by kernel_rfl))) (fun _ _ => rfl)) (se_var (i := 15) (by kernel_rfl) (.inl (by kernel_rfl))) (fun _ _ => rfl)) (se_var (i := 5) (by kernel_rfl) (.inr (.inl (by kernel_rfl)))) (nomark _)))) sb_nil)))) (ss_one (ss_retF se_bl)) ss_nil) (ss_cons (ss_setLc (own := [(".0", 12), ("i", 13), ("row", 14)]) (is := [13, 14]) (i := 8) ⟨(by exact G.nd), (by kernel_rfl), .inl (by kernel_rfl), .inl rfl⟩ (by kernel_rfl) G.calm (by kernel_rfl) (blkOk_by (by kernel_rfl)) (by decide) (si_enum (gl_of (by kernel_rfl)) (S.no 31 (by kernel_rfl)) (se_var (i := 1) (by kernel_rfl) (.inr (.inl (by kernel_rfl))))) (fun _ _ _ _ _ => (sg_tup (n := 2) (by exact G.calm) (sg_cons (sg_nm (i := 13) ⟨(by exact G.nd), (by kernel_rfl), .inl (by kernel_rfl), .inr (by kernel_rfl)⟩) (sg_cons (sg_nm (i := 14) ⟨(by exact G.nd), (by kernel_rfl), .inr (by kernel_rfl), .inl (by kernel_rfl)⟩) sg_nil)) (gl_len_cons (gl_len_cons gl_len_nil)))) (fun _ _ _ _ _ => (sts_one (st_val (se_fnB (sf_any G.calm G.sys) (gl_of (by kernel_rfl)) (S.no 29 (by kernel_rfl)) (by kernel_rfl) (sb_cons (se_lc (own := [(".0", 12), ("other", 7)]) (is := [7]) G.calm G.nd (blkOk_by (by kernel_rfl)) (by decide) (si_seq (se_var (i := 1) (by kernel_rfl) (.inr (.inl (by kernel_rfl))))) (fun _ _ _ _ _ => (sg_nm (i := 7) ⟨(by exact G.nd), (by kernel_rfl), .inl (by kernel_rfl), .inr (by kernel_rfl)⟩)) (fun _ _ _ _ _ => sts_nil) (fun _ _ _ _ _ => (se_callP ((G.blk _ _ _ _ _ _).blk _ _ _ _ _ _) p__law_is_worse (by decide) (gl_of (by kernel_rfl)) (sa_cons (se_var (i := 14) (by kernel_rfl) (.inr (.inl (by kernel_rfl)))) (sa_cons (se_var (i := 7) (by kernel_rfl) (.inl (by kernel_rfl))) sa_nil)) (ln_cons (ln_cons ln_nil))))) sb_nil))))) (fun _ _ _ _ _ => (se_var (i := 13) (by kernel_rfl) (.inl (by kernel_rfl))))) (ss_cons (ss_if (st_cmp (sop_ne G.sys G.un) (se_fnB (sf_repr G.sys G.un G.gu) (gl_of (by kernel_rfl)) (S.no 39 (by kernel_rfl)) (by kernel_rfl) (sb_cons (se_callP G p_worse_rows (by decide) (gl_of (by kernel_rfl)) (sa_cons (se_var (i := 1) (by kernel_rfl) (.inr (.inl (by kernel_rfl)))) sa_nil) (ln_cons ln_nil)) sb_nil)) (se_fnB (sf_repr G.sys G.un G.gu) (gl_of (by kernel_rfl)) (S.no 39 (by kernel_rfl)) (by kernel_rfl) (sb_cons (se_fnT sf_tup (gl_of (by kernel_rfl)) (S.no 43 (by kernel_rfl)) (by kernel_rfl) (sb_cons (se_var (i := 8) (by kernel_rfl) (.inl (by kernel_rfl))) sb_nil)) sb_nil)) (nomark _)) (ss_one (ss_retF se_bl)) ss_nil) (ss_cons (ss_set (i := 7) ⟨(by exact G.nd), (by kernel_rfl), .inl (by kernel_rfl), .inl rfl⟩ (se_fnT sf_tup (gl_of (by kernel_rfl)) (S.no 43 (by kernel_rfl)) (by kernel_rfl) (sb_cons (se_lc (own := [(".0", 12), ("j", 15)]) (is := [15]) G.calm G.nd (blkOk_by (by kernel_rfl)) (by decide) (si_rng1 (gl_of (by kernel_rfl)) (S.no 38 (by kernel_rfl)) (se_fnB sf_len (gl_of (by kernel_rfl)) (S.no 34 (by kernel_rfl)) (by kernel_rfl) (sb_cons (se_ix (se_var (i := 1) (by kernel_rfl) (.inr (.inl (by kernel_rfl)))) se_int (fun _ _ => rfl)) sb_nil))) (fun _ _ _ _ _ => (sg_nm (i := 15) ⟨(by exact G.nd), (by kernel_rfl), .inr (by kernel_rfl), .inl (by kernel_rfl)⟩)) (fun _ _ _ _ _ => sts_nil) (fun _ _ _ _ _ => (se_fnT sf_tup (gl_of (by kernel_rfl)) (S.no 43 (by kernel_rfl)) (by kernel_rfl) (sb_cons (se_lc (own := [(".0", 12), ("row", 14)]) (is := [14]) G.calm G.nd (blkOk_by (by kernel_rfl)) (by decide) (si_seq (se_var (i := 1) (by kernel_rfl) (.inr (.inl (by kernel_rfl))))) (fun _ _ _ _ _ => (sg_nm (i := 14) ⟨(by exact G.nd), (by kernel_rfl), .inl (by kernel_rfl), .inr (by kernel_rfl)⟩)) (fun _ _ _ _ _ => sts_nil) (fun _ _ _ _ _ => (se_bin sop_sub se_int (se_ix (se_var (i := 14) (by kernel_rfl) (.inl (by kernel_rfl))) (se_var (i := 15) (by kernel_rfl) (.inr (.inl (by kernel_rfl)))) (fun _ _ => rfl))))) sb_nil)))) sb_nil))) (ss_cons (ss_if (SW.st (sw_or (st_cmp (sop_ne G.sys G.un) (se_callP G p_turned_game (by decide) (gl_of (by kernel_rfl)) (sa_cons (se_var (i := 1) (by kernel_rfl) (.inr (.inl (by kernel_rfl)))) sa_nil) (ln_cons ln_nil)) (se_var (i := 7) (by kernel_rfl) (.inl (by kernel_rfl))) (nomark _)) (sw_or1 (st_cmp (sop_ne G.sys G.un) (se_callP G p_turned_game (by decide) (gl_of (by kernel_rfl)) (sa_cons (se_var (i := 7) (by kernel_rfl) (.inl (by kernel_rfl))) sa_nil) (ln_cons ln_nil)) (se_var (i := 1) (by kernel_rfl) (.inr (.inl (by kernel_rfl)))) (nomark _))))) (ss_one (ss_retF se_bl)) ss_nil) (ss_cons (ss_if (SW.st (sw_or (st_cmp (sop_ne G.sys G.un) (se_callP G p_floor_of (by decide) (gl_of (by kernel_rfl)) (sa_cons (se_var (i := 7) (by kernel_rfl) (.inl (by kernel_rfl))) sa_nil) (ln_cons ln_nil)) (se_bin sop_sub se_int (se_var (i := 6) (by kernel_rfl) (.inl (by kernel_rfl)))) (nomark _)) (sw_or1 (st_cmp (sop_ne G.sys G.un) (se_callP G p_ceiling_of (by decide) (gl_of (by kernel_rfl)) (sa_cons (se_var (i := 7) (by kernel_rfl) (.inl (by kernel_rfl))) sa_nil) (ln_cons ln_nil)) (se_bin sop_sub se_int (se_var (i := 5) (by kernel_rfl) (.inr (.inl (by kernel_rfl))))) (nomark _))))) (ss_one (ss_retF se_bl)) ss_nil) (ss_cons (ss_if (st_cmp (sop_ne G.sys G.un) (se_fnB (sf_sorted G.sys G.un) (gl_of (by kernel_rfl)) (S.no 40 (by kernel_rfl)) (by kernel_rfl) (sb_cons (se_lc (own := [(".0", 12), ("i", 13), ("j", 15)]) (is := [13, 15]) G.calm G.nd (blkOk_by (by kernel_rfl)) (by decide) (si_seq (se_var (i := 3) (by kernel_rfl) (.inl (by kernel_rfl)))) (fun _ _ _ _ _ => (sg_tup (n := 2) (by exact G.calm) (sg_cons (sg_nm (i := 13) ⟨(by exact G.nd), (by kernel_rfl), .inl (by kernel_rfl), .inr (by kernel_rfl)⟩) (sg_cons (sg_nm (i := 15) ⟨(by exact G.nd), (by kernel_rfl), .inl (by kernel_rfl), .inr (by kernel_rfl)⟩) sg_nil)) (gl_len_cons (gl_len_cons gl_len_nil)))) (fun _ _ _ _ _ => sts_nil) (fun _ _ _ _ _ => (se_tup (sa_cons (se_var (i := 15) (by kernel_rfl) (.inl (by kernel_rfl))) (sa_cons (se_var (i := 13) (by kernel_rfl) (.inl (by kernel_rfl))) sa_nil)) (ln_cons (ln_cons ln_nil))))) sb_nil)) (se_callP G p__law_sure (by decide) (gl_of (by kernel_rfl)) (sa_cons (se_var (i := 7) (by kernel_rfl) (.inl (by kernel_rfl))) sa_nil) (ln_cons ln_nil)) (nomark _)) (ss_one (ss_retF se_bl)) ss_nil) (ss_cons (ss_set (i := 9) ⟨(by exact G.nd), (by kernel_rfl), .inl (by kernel_rfl), .inl rfl⟩ (SE.froz (se_lst (sa_cons (se_var (i := 4) (by kernel_rfl) (.inl (by kernel_rfl))) (sa_cons (se_tup (sa_cons se_str sa_nil) (ln_cons ln_nil)) (sa_cons (se_tup (sa_cons se_str (sa_cons se_int (sa_cons se_int sa_nil))) (ln_cons (ln_cons (ln_cons ln_nil)))) (sa_cons (se_tup (sa_cons se_str (sa_cons (se_bin sop_sub (se_fnB sf_len (gl_of (by kernel_rfl)) (S.no 34 (by kernel_rfl)) (by kernel_rfl) (sb_cons (se_var (i := 1) (by kernel_rfl) (.inr (.inl (by kernel_rfl)))) sb_nil)) se_int) (sa_cons (se_bin sop_sub (se_fnB sf_len (gl_of (by kernel_rfl)) (S.no 34 (by kernel_rfl)) (by kernel_rfl) (sb_cons (se_ix (se_var (i := 1) (by kernel_rfl) (.inr (.inl (by kernel_rfl)))) se_int (fun _ _ => rfl)) sb_nil)) se_int) sa_nil))) (ln_cons (ln_cons (ln_cons ln_nil)))) (sa_cons (se_tup (sa_cons se_str (sa_cons se_int sa_nil)) (ln_cons (ln_cons ln_nil))) (sa_cons (se_tup (sa_cons se_str sa_nil) (ln_cons ln_nil)) sa_nil)))))) (ln_cons (ln_cons (ln_cons (ln_cons (ln_cons (ln_cons ln_nil))))))))) (ss_cons (ss_set (i := 9) ⟨(by exact G.nd), (by kernel_rfl), .inl (by kernel_rfl), .inl rfl⟩ (se_bin sop_addA (se_bin sop_addA (se_var (i := 9) (by kernel_rfl) (.inl (by kernel_rfl))) (se_lc (own := [(".0", 12), ("place", 16)]) (is := [16]) G.calm G.nd (blkOk_by (by kernel_rfl)) (by decide) (si_seq (se_var (i := 3) (by kernel_rfl) (.inl (by kernel_rfl)))) (fun _ _ _ _ _ => (sg_nm (i := 16) ⟨(by exact G.nd), (by kernel_rfl), .inl (by kernel_rfl), .inr (by kernel_rfl)⟩)) (fun _ _ _ _ _ => sts_nil) (fun _ _ _ _ _ => (se_bin sop_addA (se_tup (sa_cons se_str sa_nil) (ln_cons ln_nil)) (se_var (i := 16) (by kernel_rfl) (.inl (by kernel_rfl))))))) (se_lst (sa_cons (SE.froz (se_fnT sf_list (gl_of (by kernel_rfl)) (S.no 35 (by kernel_rfl)) (by kernel_rfl) (sb_cons (se_var (i := 4) (by kernel_rfl) (.inl (by kernel_rfl))) sb_nil))) (sa_cons (se_tup (sa_cons (se_var (i := 4) (by kernel_rfl) (.inl (by kernel_rfl))) sa_nil) (ln_cons ln_nil)) (sa_cons (se_bin sop_addA (se_var (i := 4) (by kernel_rfl) (.inl (by kernel_rfl))) (se_tup (sa_cons se_int sa_nil) (ln_cons ln_nil))) (sa_cons (se_tup (sa_cons se_str (sa_cons se_non (sa_cons se_int sa_nil))) (ln_cons (ln_cons (ln_cons ln_nil)))) (sa_cons (se_tup sa_nil ln_nil) sa_nil))))) (ln_cons (ln_cons (ln_cons (ln_cons (ln_cons ln_nil)))))))) (ss_cons (ss_for hp G.calm (si_seq (se_bin sop_addA (se_var (i := 9) (by kernel_rfl) (.inl (by kernel_rfl))) (se_lst (sa_cons (se_tup (sa_cons se_str (sa_cons (se_neg se_int) (sa_cons (se_neg se_int) sa_nil))) (ln_cons (ln_cons (ln_cons ln_nil)))) (sa_cons (se_tup (sa_cons se_str (sa_cons se_str (sa_cons se_int sa_nil))) (ln_cons (ln_cons (ln_cons ln_nil)))) (sa_cons se_non (sa_cons se_int (sa_cons (SE.froz se_dct0) (sa_cons (se_callP G p__law_deep (by decide) (gl_of (by kernel_rfl)) (sa_cons (se_var (i := 0) (by kernel_rfl) (.inl (by kernel_rfl))) sa_nil) (ln_cons ln_nil)) (sa_cons (se_tup (sa_cons se_str (sa_cons se_int (sa_cons se_int sa_nil))) (ln_cons (ln_cons (ln_cons ln_nil)))) sa_nil))))))) (ln_cons (ln_cons (ln_cons (ln_cons (ln_cons (ln_cons (ln_cons ln_nil)))))))))) (sg_nm (i := 10) ⟨(by exact G.nd), (by kernel_rfl), .inl (by kernel_rfl), .inl rfl⟩) (ss_cons (ss_par (i := 2) (j := 11) G.calm ⟨(by exact G.nd), (by kernel_rfl), .inl (by kernel_rfl), .inl rfl⟩ ⟨(by exact G.nd), (by kernel_rfl), .inl (by kernel_rfl), .inl rfl⟩ (by decide) (by kernel_rfl) (by kernel_rfl) (sa_cons (se_fnB (sf_repr G.sys G.un G.gu) (gl_of (by kernel_rfl)) (S.no 39 (by kernel_rfl)) (by kernel_rfl) (sb_cons (se_var (i := 10) (by kernel_rfl) (.inl (by kernel_rfl))) sb_nil)) (sa_cons (se_callP G p__law_is_told (by decide) (gl_of (by kernel_rfl)) (sa_cons (se_var (i := 3) (by kernel_rfl) (.inl (by kernel_rfl))) (sa_cons (se_var (i := 10) (by kernel_rfl) (.inl (by kernel_rfl))) sa_nil)) (ln_cons (ln_cons ln_nil))) sa_nil)) (by kernel_rfl)) (ss_one (ss_if (SW.st (sw_or (st_cmp (sop_ne G.sys G.un) (se_fnB (sf_repr G.sys G.un G.gu) (gl_of (by kernel_rfl)) (S.no 39 (by kernel_rfl)) (by kernel_rfl) (sb_cons (se_callP G p_is_sure_or_mixed (by decide) (gl_of (by kernel_rfl)) (sa_cons (se_var (i := 1) (by kernel_rfl) (.inr (.inl (by kernel_rfl)))) (sa_cons (se_var (i := 10) (by kernel_rfl) (.inl (by kernel_rfl))) sa_nil)) (ln_cons (ln_cons ln_nil))) sb_nil)) (se_fnB (sf_repr G.sys G.un G.gu) (gl_of (by kernel_rfl)) (S.no 39 (by kernel_rfl)) (by kernel_rfl) (sb_cons (se_var (i := 11) (by kernel_rfl) (.inl (by kernel_rfl))) sb_nil)) (nomark _)) (sw_or1 (st_cmp (sop_ne G.sys G.un) (se_fnB (sf_repr G.sys G.un G.gu) (gl_of (by kernel_rfl)) (S.no 39 (by kernel_rfl)) (by kernel_rfl) (sb_cons (se_var (i := 10) (by kernel_rfl) (.inl (by kernel_rfl))) sb_nil)) (se_var (i := 2) (by kernel_rfl) (.inl (by kernel_rfl))) (nomark _))))) (ss_one (ss_retF se_bl)) ss_nil)))) (ss_one (ss_retF (se_callP G p__law_are_refused (by decide) (gl_of (by kernel_rfl)) (sa_cons (se_var (i := 0) (by kernel_rfl) (.inl (by kernel_rfl))) (sa_cons (se_var (i := 1) (by kernel_rfl) (.inr (.inl (by kernel_rfl)))) sa_nil)) (ln_cons (ln_cons ln_nil)))))))))))))))))))))
def M_law : Sx := (sSeq (sOwn 1 (eFn F__law_hand (lCons (eVar 0) lNil))) (sPin 1 (sSeq (sIf (tOr' (tV (eBin (pur neD) (eFn F_sure_or_mixed (lCons (eTup (lCons (eTup (lCons (eC (.int 1)) (lCons (eC (.int 2)) lNil))) (lCons (eTup (lCons (eC (.int 0)) (lCons (eC (.int 5)) lNil))) lNil))) lNil)) (eTup (lCons (eC (.str "sure")) (lCons (eC (.int 0)) (lCons (eC (.int 0)) lNil)))))) (tV (eBin (pur neD) (eFn F_sure_or_mixed (lCons (eTup (lCons (eTup (lCons (eC (.int 1)) (lCons (eNeg (eC (.int 1))) lNil))) (lCons (eTup (lCons (eNeg (eC (.int 1))) (lCons (eC (.int 1)) lNil))) lNil))) lNil)) (eTup (lCons (eC (.str "mixed")) lNil))))) (sRet (eC (.bl false))) sNil) (sSeq (sIf (tOr' (tV (eBin (pur neD) (eFn F_worse_rows (lCons (eTup (lCons (eTup (lCons (eC (.int 1)) (lCons (eC (.int 2)) lNil))) (lCons (eTup (lCons (eC (.int 1)) (lCons (eC (.int 1)) lNil))) (lCons (eTup (lCons (eC (.int 1)) (lCons (eC (.int 2)) lNil))) lNil)))) lNil)) (eTup (lCons (eC (.int 1)) lNil)))) (tV (eBin (pur neD) (eFn F_turned_game (lCons (eTup (lCons (eTup (lCons (eC (.int 1)) (lCons (eC (.int 2)) lNil))) lNil)) lNil)) (eTup (lCons (eTup (lCons (eNeg (eC (.int 1))) lNil)) (lCons (eTup (lCons (eNeg (eC (.int 2))) lNil)) lNil)))))) (sRet (eC (.bl false))) sNil) (sRet (eFn (g1 fun d => lift (allD d)) (lCons (eLc [2, 3] (iRng1S (eC (.int 7))) (gNm 3) tYesS (eFn F__law_is_right (lCons (eVar 1) lNil))) lNil)))))))
def F_law : Fx := callS .froz M_law
theorem p_law (S : SaysE P fa fn cls "ClueError" tf K mg base T) : Prm P w K mg base T 8 "law" ["script"] .froz F_law := by
  have p_sure_or_mixed := p_sure_or_mixed (P := P) (w := w) (base := base) (T := T) S
  have p_worse_rows := p_worse_rows (P := P) (w := w) (base := base) (T := T) S
  have p_turned_game := p_turned_game (P := P) (w := w) (base := base) (T := T) S
  have p__law_hand := p__law_hand (P := P) (w := w) (base := base) (T := T) S
  have p__law_is_right := p__law_is_right (P := P) (w := w) (base := base) (T := T) S
  refine prm_of (N := ["script", "hand", ".0", "turn"]) (m := M_law) S.s 25 25 (d := mkD "law" 33) (by kernel_rfl) (by kernel_rfl) rfl rfl rfl ⟨by kernel_rfl, by kernel_rfl, by kernel_rfl, by decide +kernel, by kernel_rfl, by decide +kernel, by decide +kernel⟩ (fun _ _ _ _ _ _ us hl => match us, hl with | [_], _ => rfl) fun f cd A outer s W E hT G hp => ?_
  subst hT
  exact (ss_cons (ss_own (i := 1) ⟨(by exact G.nd), (by kernel_rfl), .inr (by kernel_rfl), .inl rfl⟩ (se_callP G p__law_hand (by decide) (gl_of (by kernel_rfl)) (sa_cons (se_var (i := 0) (by kernel_rfl) (.inl (by kernel_rfl))) sa_nil) (ln_cons ln_nil))) (ss_pins (i := 1) (ss_cons (ss_if (SW.st (sw_or (st_cmp (sop_ne G.sys G.un) (se_callP G p_sure_or_mixed (by decide) (gl_of (by kernel_rfl)) (sa_cons (se_tup (sa_cons (se_tup (sa_cons se_int (sa_cons se_int sa_nil)) (ln_cons (ln_cons ln_nil))) (sa_cons (se_tup (sa_cons se_int (sa_cons se_int sa_nil)) (ln_cons (ln_cons ln_nil))) sa_nil)) (ln_cons (ln_cons ln_nil))) sa_nil) (ln_cons ln_nil)) (se_tup (sa_cons se_str (sa_cons se_int (sa_cons se_int sa_nil))) (ln_cons (ln_cons (ln_cons ln_nil)))) (nomark _)) (sw_or1 (st_cmp (sop_ne G.sys G.un) (se_callP G p_sure_or_mixed (by decide) (gl_of (by kernel_rfl)) (sa_cons (se_tup (sa_cons (se_tup (sa_cons se_int (sa_cons (se_neg se_int) sa_nil)) (ln_cons (ln_cons ln_nil))) (sa_cons (se_tup (sa_cons (se_neg se_int) (sa_cons se_int sa_nil)) (ln_cons (ln_cons ln_nil))) sa_nil)) (ln_cons (ln_cons ln_nil))) sa_nil) (ln_cons ln_nil)) (se_tup (sa_cons se_str sa_nil) (ln_cons ln_nil)) (nomark _))))) (ss_one (ss_retF se_bl)) ss_nil) (ss_cons (ss_if (SW.st (sw_or (st_cmp (sop_ne G.sys G.un) (se_callP G p_worse_rows (by decide) (gl_of (by kernel_rfl)) (sa_cons (se_tup (sa_cons (se_tup (sa_cons se_int (sa_cons se_int sa_nil)) (ln_cons (ln_cons ln_nil))) (sa_cons (se_tup (sa_cons se_int (sa_cons se_int sa_nil)) (ln_cons (ln_cons ln_nil))) (sa_cons (se_tup (sa_cons se_int (sa_cons se_int sa_nil)) (ln_cons (ln_cons ln_nil))) sa_nil))) (ln_cons (ln_cons (ln_cons ln_nil)))) sa_nil) (ln_cons ln_nil)) (se_tup (sa_cons se_int sa_nil) (ln_cons ln_nil)) (nomark _)) (sw_or1 (st_cmp (sop_ne G.sys G.un) (se_callP G p_turned_game (by decide) (gl_of (by kernel_rfl)) (sa_cons (se_tup (sa_cons (se_tup (sa_cons se_int (sa_cons se_int sa_nil)) (ln_cons (ln_cons ln_nil))) sa_nil) (ln_cons ln_nil)) sa_nil) (ln_cons ln_nil)) (se_tup (sa_cons (se_tup (sa_cons (se_neg se_int) sa_nil) (ln_cons ln_nil)) (sa_cons (se_tup (sa_cons (se_neg se_int) sa_nil) (ln_cons ln_nil)) sa_nil)) (ln_cons (ln_cons ln_nil))) (nomark _))))) (ss_one (ss_retF se_bl)) ss_nil) (ss_one (ss_retF (se_fnB (sf_all G.calm G.sys) (gl_of (by kernel_rfl)) (S.no 28 (by kernel_rfl)) (by kernel_rfl) (sb_cons (se_lc (own := [(".0", 2), ("turn", 3)]) (is := [3]) G.calm G.nd (blkOk_by (by kernel_rfl)) (by decide) (si_rng1 (gl_of (by kernel_rfl)) (S.no 38 (by kernel_rfl)) se_int) (fun _ _ _ _ _ => (sg_nm (i := 3) ⟨(by exact G.nd), (by kernel_rfl), .inl (by kernel_rfl), .inr (by kernel_rfl)⟩)) (fun _ _ _ _ _ => sts_nil) (fun _ _ _ _ _ => (se_callP (G.blk _ _ _ _ _ _) p__law_is_right (by decide) (gl_of (by kernel_rfl)) (sa_cons (se_var (i := 1) (by kernel_rfl) (.inr (.inl (by kernel_rfl)))) sa_nil) (ln_cons ln_nil)))) sb_nil))))))))
end
end
end Lw76


set_option Elab.async false
set_option linter.all false
set_option maxRecDepth 100000
set_option maxHeartbeats 2000000
namespace Lw76
open PySem PySem.Spec L2 Sm
local macro_rules | `(tactic| and_intros) => `(tactic| first
  | (show _ = _; with_reducible assumption)
  | with_reducible exact eC_eq
  | with_reducible exact lNil_eq
  | with_reducible exact ev_pNo
  | with_reducible exact put_eq
  | (with_reducible refine put_no ?_ (by rfl)) <;> and_intros
  | (with_reducible refine clr_no ?_ (by rfl)) <;> and_intros
  | (with_reducible apply ev_var) <;> try and_intros
  | (with_reducible apply ev_varB) <;> try and_intros
  | (with_reducible apply ev_cons) <;> try and_intros
  | (with_reducible apply ev_tV) <;> try and_intros
  | (with_reducible apply ev_bin) <;> try and_intros
  | (with_reducible apply ev_ix) <;> try and_intros
  | (with_reducible apply ev_fn) <;> try and_intros
  | (with_reducible apply ev_g1) <;> try and_intros
  | (with_reducible apply ev_g2) <;> try and_intros
  | (with_reducible apply ev_set) <;> try and_intros
  | (with_reducible apply ev_ret) <;> try and_intros
  | (with_reducible apply ev_own) <;> try and_intros
  | (with_reducible apply ev_drop) <;> try and_intros
  | (with_reducible apply ev_tNot) <;> try and_intros
  | (with_reducible apply ev_tAnd) <;> try and_intros
  | (with_reducible apply ev_tOr) <;> try and_intros
  | (with_reducible apply ev_and) <;> try and_intros
  | (with_reducible apply ev_or) <;> try and_intros
  | (with_reducible apply ev_not) <;> try and_intros
  | (with_reducible apply ev_neg) <;> try and_intros
  | (with_reducible apply ev_if) <;> try and_intros
  | (with_reducible apply ev_chain) <;> try and_intros
  | (with_reducible apply ev_tup) <;> try and_intros
  | (with_reducible apply ev_lst) <;> try and_intros
  | (with_reducible apply ev_isa) <;> try and_intros
  | (with_reducible apply ev_lcM) <;> try and_intros
  | (with_reducible apply ev_lc) <;> try and_intros
  | (with_reducible apply ev_iSeq) <;> try and_intros
  | (with_reducible apply ev_iRng) <;> try and_intros
  | (with_reducible apply ev_iEnum) <;> try and_intros
  | (with_reducible apply ev_iZip) <;> try and_intros
  | (with_reducible apply ev_sl) <;> try and_intros
  | (with_reducible apply ev_pAt) <;> try and_intros
  | (with_reducible apply ev_rev) <;> try and_intros
  | (with_reducible apply ev_dct1) <;> try and_intros
  | (with_reducible apply ev_lenSet) <;> try and_intros
  | (with_reducible apply ev_srtSet) <;> try and_intros
  | (with_reducible apply ev_rgL1) <;> try and_intros
  | (with_reducible apply ev_seqNever) <;> try and_intros
  | (with_reducible apply ev_never) <;> try and_intros
  | (with_reducible apply ev_seqIfSet) <;> try and_intros
  | (with_reducible apply ev_ifRet) <;> try and_intros
  | (with_reducible apply ev_ifElse) <;> try and_intros
  | (with_reducible apply ev_seq) <;> try and_intros
  | (with_reducible apply ev_frz) <;> try and_intros
  | (with_reducible apply ev_frzNo) <;> try and_intros
  | (with_reducible apply ev_par) <;> try and_intros
  | (with_reducible apply ev_par2) <;> try and_intros
  | (with_reducible apply ev_par3) <;> try and_intros
  | (with_reducible apply ev_asg) <;> try and_intros
  | (with_reducible apply ev_app) <;> try and_intros
  | (with_reducible apply ev_ext) <;> try and_intros
  | with_reducible exact addA_int
  | with_reducible exact subD_int
  | with_reducible exact eqD_int
  | with_reducible exact neD_int
  | with_reducible exact ltD_int
  | with_reducible exact leD_int
  | with_reducible exact gtD_int
  | with_reducible exact geD_int
  | with_reducible exact eqD_str
  | with_reducible exact neD_str
  | with_reducible exact lenD_tup'
  | with_reducible exact lenD_lst'
  | with_reducible exact lenD_tup
  | with_reducible exact lenD_lst
  | with_reducible exact tupD_lst
  | with_reducible exact tupD_tup
  | with_reducible exact listD_lst
  | with_reducible exact listD_tup
  | with_reducible exact intD_int
  | with_reducible exact intD_bl
  | with_reducible exact absD_int
  | with_reducible exact allD_p _ _
  | with_reducible exact anyD_p _ _
  | with_reducible exact revD_tup'
  | with_reducible exact revD_lst'
  | with_reducible exact slA_tup'
  | with_reducible exact slA_lst'
  | with_reducible exact sumD_f
  | with_reducible exact inD_ints
  | with_reducible exact inD_intsL
  | with_reducible exact ninD_ints
  | with_reducible exact ninD_intsL
  | with_reducible exact repI
  | (with_reducible apply modD_int) <;> omega
  | (with_reducible apply mulS_l) <;> omega
  | (with_reducible apply mulS_r) <;> omega
  | (with_reducible apply add_tup) <;> try and_intros
  | (with_reducible apply add_lst) <;> try and_intros
  | (with_reducible apply ix_tup) <;> try and_intros
  | (with_reducible apply ix_lst) <;> try and_intros
  | (with_reducible apply ix_tup0) <;> try and_intros
  | (with_reducible apply ix_lst0) <;> try and_intros
  | (with_reducible apply ix_tupL) <;> try and_intros
  | (with_reducible apply ix_lstL) <;> try and_intros
  | (with_reducible apply ev_isOp) <;> try and_intros
  | (with_reducible apply ev_isntOp) <;> try and_intros
  | (with_reducible apply eqD_gen) <;> try and_intros
  | (with_reducible apply neD_gen) <;> try and_intros
  | (show _ ≠ _; first | omega | (simp only [decide_eq_false_iff_not, decide_eq_true_eq] at *; omega) | (simp_all; done) | (simp_all; omega) | skip)
  | (refine fun x hx => ⟨_, rfl, ?_, fun hp => ?_⟩) <;> try and_intros
  | (refine fun x hx => ⟨_, rfl, ?_⟩) <;> try and_intros
  | (with_reducible refine fun (_ : _ = _) => ?_) <;> try and_intros
  | rfl
  | omega
  | (simp only [decide_eq_false_iff_not, decide_eq_true_eq] at *; omega)
  | (simp; done)
  | (simp; omega)
  | (simp_all; done)
  | (simp_all; omega))
theorem r_within {d : D} {lo hi : Int} {st : Store} (h : dat 60 d = true) : F_is_within [d, .int lo, .int hi] st = .ok (.bl (inR lo hi d)) st := within_eq h
theorem r_tuple {d : D} {a b : Int} {st : Store} (h : dat 60 d = true) : F_is_tuple [d, .int a, .int b] st = .ok (.bl (tupN a b d)) st := tuple_eq h
theorem r_int {d : D} {st : Store} (h : dat 60 d = true) : F_is_integer [d] st = .ok (.bl d.isInt) st := int_eq h
abbrev Gm := List (List Int)
abbrev gm (G : Gm) : D := .tup (G.map tN)
structure Go (w : Nat) (G : Gm) : Prop where
  h1 : 1 ≤ G.length
  h3 : G.length ≤ 3
  w1 : 1 ≤ w
  w3 : w ≤ 3
  len : ∀ r ∈ G, r.length = w
  rng : ∀ r ∈ G, ∀ x ∈ r, -20 ≤ x ∧ x ≤ 20
def colL (G : Gm) (j : Nat) : List Int := G.map fun r => r.getD j 0
section
variable {w : Nat} {G : Gm} {st : Store} {e : En}
theorem Go.ne (h : Go w G) : G ≠ [] := fun e => by have := h.h1; rw [e] at this; simp at this
theorem Go.nz (h : Go w G) : G.length ≠ 0 := by have := h.h1; omega
theorem Go.rne (h : Go w G) {r : List Int} (hr : r ∈ G) : r ≠ [] := fun e => by have := h.len r hr; have := h.w1; rw [e] at *; simp at *; omega
theorem Go.hd (h : Go w G) : G.headD default ∈ G := by
  cases G with
  | nil => exact absurd rfl h.ne
  | cons r G => simp
theorem Go.hdl (h : Go w G) : (G.headD default).length = w := h.len _ h.hd
/-! ### the check -/
def rowT : Tx := (tOr' (tNot' (tV (eFn F_is_tuple (lCons (eVar 2) (lCons (eVar 1) (lCons (eVar 1) lNil)))))) (tNot' (tV (eFn (g1 fun d => lift (allD d)) (lCons (eLc [3, 4] (iSeq (eVar 2)) (gNm 4) tYesS (eFn F_is_within (lCons (eVar 4) (lCons (eNeg (eC (.int 20))) (lCons (eC (.int 20)) lNil))))) lNil)))))
theorem row_t {xs : List D} (h : ∀ x ∈ xs, dat 59 x = true) (hl : xs.length ≤ 100) (e1 : e 1 = some (false, .int w)) (e2 : e 2 = some (false, .tup xs)) : rowT e st = .ok (!(tupN w w (.tup xs)) || !xs.all (inR (-20) 20)) st := by
  refine ev_tOr (ev_tNot (ev_tV (ev_fn (by and_intros) (r_tuple (by simpa using h))))) fun _ => ?_
  exact ev_tNot (ev_tV (ev_fn (ev_cons (ev_lcM xs id (fun x => .bl (inR (-20) 20 x)) (by rw [List.map_id]; exact ev_iSeq (ev_var e2) rfl) (fun x hx => ⟨_, rfl, ev_fn (ev_cons (ev_var put_eq) (ev_cons (ev_neg eC_eq) (ev_cons eC_eq lNil_eq))) (r_within (dat_le (h x hx) (by omega)))⟩) (by omega)) lNil_eq) (ev_g1 (allD_p _ _))))
theorem row_n {d : D} (h : dat 60 d = true) (ht : tupN w w d = false) (e1 : e 1 = some (false, .int w)) (e2 : e 2 = some (false, d)) : rowT e st = .ok true st :=
  tOr_yes (ev_to (ev_tNot (ev_tV (ev_fn (by and_intros) (r_tuple h)))) (by rw [ht]; rfl))
theorem row_ok {r : List Int} (hl : r.length = w) (hw : w ≤ 3) (hr : ∀ x ∈ r, -20 ≤ x ∧ x ≤ 20) (e1 : e 1 = some (false, .int w)) (e2 : e 2 = some (false, tN r)) : rowT e st = .ok false st := by
  refine (row_t (xs := r.map .int) (by simp) (by simp; omega) e1 e2).trans ?_
  have t1 : tupN w w (tN r) = true := by simp [tupN]; omega
  have t2 : (r.map D.int).all (inR (-20) 20) = true := by
    rw [List.all_map, List.all_eq_true]
    intro x hx
    have := hr x hx
    simp [inR]; omega
  rw [t1, t2]; rfl
theorem hd_t : (tOr' (tNot' (tV (eFn F_is_tuple (lCons (eVar 0) (lCons (eC (.int 1)) (lCons (eC (.int 3)) lNil)))))) (tNot' (tV (eFn F_is_tuple (lCons (eBin ixD (eVar 0) (eC (.int 0))) (lCons (eC (.int 1)) (lCons (eC (.int 3)) lNil))))))) = (tOr' (tNot' (tV (eFn F_is_tuple (lCons (eVar 0) (lCons (eC (.int 1)) (lCons (eC (.int 3)) lNil)))))) (tNot' (tV (eFn F_is_tuple (lCons (eBin ixD (eVar 0) (eC (.int 0))) (lCons (eC (.int 1)) (lCons (eC (.int 3)) lNil))))))) := rfl
theorem cg_ok (h : Go w G) : F_check_game [gm G] st = .ok .non st := by
  have l1 := h.h1
  have l3 := h.h3
  have w1 := h.w1
  have w3 := h.w3
  have hdl := h.hdl
  obtain ⟨e', f1, _⟩ := for_still (j := 2) (b := sIf rowT (sRaise "NoGame") sNil) (it := iSeq (eVar 0)) (env := (env0 [gm G]).put 1 false (.int w)) (st := st) (st1 := st) (G.map tN) (ev_iSeq (x := gm G) (ev_var rfl) rfl) (fun d hd e he => by
    obtain ⟨r, hr, rfl⟩ := List.mem_map.mp hd
    exact sIf_no (row_ok (h.len r hr) w3 (h.rng r hr) (put_no ((he 1 (by decide)).trans put_eq)) put_eq))
  refine ev_callN (s := M_check_game) (e1 := e') ?_
  unfold M_check_game
  refine ev_seq (sIf_no (ev_to (ev_tOr (ev_tNot (ev_tV (ev_fn (by and_intros) (r_tuple (by simp))))) fun _ => ev_tNot (ev_tV (ev_fn (ev_cons (ev_ix (ev_var rfl) eC_eq (ix_tup0 (f := tN) h.nz)) (by and_intros)) (r_tuple (by simp))))) ?_)) (ev_seq (ev_set (ev_to (ev_fn (ev_cons (ev_ix (ev_var rfl) eC_eq (ix_tup0 (f := tN) h.nz)) lNil_eq) (ev_g1 lenD_tup')) (by rw [hdl]))) f1)
  have t1 : tupN 1 3 (gm G) = true := by
    show (decide ((1 : Int) ≤ (G.map tN).length) && decide (((G.map tN).length : Int) ≤ 3)) = true
    rw [List.length_map]
    simp only [Bool.and_eq_true, decide_eq_true_eq]
    omega
  have t2 : tupN 1 3 (tN (G.headD default)) = true := by
    show (decide ((1 : Int) ≤ ((G.headD default).map D.int).length) && decide ((((G.headD default).map D.int).length : Int) ≤ 3)) = true
    rw [List.length_map]
    simp only [Bool.and_eq_true, decide_eq_true_eq]
    omega
  rw [t1, t2]; rfl
/-! ### places -/
theorem col_ev {a b i k j : Nat} (h : Go w G) (hj : j < w) (hi : e i = some (false, gm G)) (hk : e k = some (false, .int (j : Nat))) (q : [a, b].contains k = false) (qb : (k == b) = false) :
    eLc [a, b] (iSeq (eVar i)) (gNm b) tYesS (eBin ixD (eVar b) (eVar k)) e st = .ok (.lst (G.map fun r => .int (r.getD j 0))) st := by
  have := h.h3
  exact ev_lcM G tN _ (ev_iSeq (ev_var hi) rfl) (fun r hr => ⟨_, rfl, ev_ix (ev_var put_eq) (ev_var (put_no (clr_no hk q) qb)) (ix_tI (getD_some (by rw [h.len r hr]; exact hj)))⟩) (by omega)
theorem mxc_ev {a b i k j : Nat} (h : Go w G) (hj : j < w) (hi : e i = some (false, gm G)) (hk : e k = some (false, .int (j : Nat))) (q : [a, b].contains k = false) (qb : (k == b) = false) :
    eFn (g1 fun d => lift (maxD' d)) (lCons (eLc [a, b] (iSeq (eVar i)) (gNm b) tYesS (eBin ixD (eVar b) (eVar k))) lNil) e st = .ok (.int (mxL (colL G j))) st :=
  ev_fn (ev_cons (col_ev h hj hi hk q qb) lNil_eq) (ev_g1 (maxD_f h.ne))
theorem mnr_ev {i : Nat} {r : List Int} (h : r ≠ []) (hi : e i = some (false, tN r)) : eFn (g1 fun d => lift (minD' d)) (lCons (eVar i) lNil) e st = .ok (.int (mnL r)) st := ev_fn (ev_cons (ev_var hi) lNil_eq) (ev_g1 (minD_t h))
def good (G : Gm) (r : List Int) (q : Int × Nat) : Bool := decide (q.1 = mnL r) && decide (q.1 = mxL (colL G q.2))
abbrev prE (p : Nat × Nat) : D := .tup [.int (p.1 : Nat), .int (p.2 : Nat)]
def sure (G : Gm) : List (Nat × Nat) := G.zipIdx.flatMap fun p => (p.1.zipIdx.filter (good G p.1)).map fun q => (p.2, q.2)
def surF (G : Gm) (p : List Int × Nat) : List D := (p.1.zipIdx.filter (good G p.1)).map fun q => prE (p.2, q.2)
theorem sure_map : (G.zipIdx.flatMap (surF G)) = (sure G).map prE := by
  unfold sure surF
  rw [List.map_flatMap]
  congr 1
  funext p
  rw [List.map_map]
  rfl
theorem sure_le (h : Go w G) : (G.zipIdx.flatMap (surF G)).length ≤ 9 := by
  have l3 := h.h3
  have w3 := h.w3
  refine Nat.le_trans (flat_le (c := 3) fun p hp => ?_) (by rw [List.length_zipIdx]; omega)
  unfold surF
  rw [List.length_map]
  have := List.length_filter_le (good G p.1) p.1.zipIdx
  rw [List.length_zipIdx, h.len p.1 (List.fst_mem_of_mem_zipIdx hp)] at this
  omega
theorem zi {α : Type} {l : List α} {q : α × Nat} (h : q ∈ l.zipIdx) : l[q.2]? = some q.1 := by
  obtain ⟨a, b⟩ := List.mem_zipIdx' h
  rw [b]
  exact List.getElem?_eq_getElem a
theorem zl {α : Type} {l : List α} {q : α × Nat} (h : q ∈ l.zipIdx) : q.2 < l.length := (List.mem_zipIdx' h).1
theorem sure_places_eq (h : Go w G) : F_sure_places [gm G] st = .ok (.lst ((sure G).map prE)) st := by
  have w3 := h.w3
  obtain ⟨e', f1, f2, _⟩ := for_coll (st := st) (st1 := st) (env := (env0 [gm G]).put 1 true (.lst [])) (W := [1, 2, 3, 4]) (s := 1) (it := iEnumS (eVar 0)) (g := gTp (gCs (gNm 2) (gCs (gNm 3) gNl))) (b := (sSeq (sSet 4 (eLc [5, 6, 7] (iEnumS (eVar 3)) (gTp (gCs (gNm 6) (gCs (gNm 7) gNl))) (tV (eBin (pur eqD) (eVar 7) (eFn (g1 fun d => lift (minD' d)) (lCons (eVar 3) lNil)))) (eVar 6))) (sExt 1 (eLc [5, 6] (iSeq (eVar 4)) (gNm 6) (tV (eBin (pur eqD) (eBin ixD (eVar 3) (eVar 6)) (eFn (g1 fun d => lift (maxD' d)) (lCons (eLc [5, 8] (iSeq (eVar 0)) (gNm 8) tYesS (eBin ixD (eVar 8) (eVar 6))) lNil)))) (eTup (lCons (eVar 2) (lCons (eVar 6) lNil)))))))
    G.zipIdx (fun p => .tup [.int (p.2 : Nat), tN p.1]) (surF G) [] (ev_iEnum (x := gm G) (ev_var rfl) rfl) put_eq (fun p hp e acc ke ka kl => by
      have hr := List.fst_mem_of_mem_zipIdx hp
      have lr := h.len _ hr
      have nr := h.rne hr
      have e0 : e 0 = some (false, gm G) := (ke 0 rfl).trans rfl
      have b9 := sure_le h
      obtain ⟨F, hF⟩ : ∃ F, F = p.1.zipIdx.filter fun q => decide (q.1 = mnL p.1) := ⟨_, rfl⟩
      have memF : ∀ q ∈ F, q ∈ p.1.zipIdx := fun q hq => by rw [hF] at hq; exact (List.mem_filter.mp hq).1
      have lF : F.length ≤ 3 := by
        have := List.length_filter_le (fun q : Int × Nat => decide (q.1 = mnL p.1)) p.1.zipIdx
        rw [List.length_zipIdx] at this
        rw [hF]; omega
      have lc1 : (eLc [5, 6, 7] (iEnumS (eVar 3)) (gTp (gCs (gNm 6) (gCs (gNm 7) gNl))) (tV (eBin (pur eqD) (eVar 7) (eFn (g1 fun d => lift (minD' d)) (lCons (eVar 3) lNil)))) (eVar 6)) ((e.put 2 false (.int (p.2 : Nat))).put 3 false (tN p.1)) st = .ok (.lst (F.map fun q => .int (q.2 : Nat))) st := by
        rw [hF]
        exact ev_lc p.1.zipIdx (fun q => .tup [.int (q.2 : Nat), .int q.1]) (fun q => decide (q.1 = mnL p.1)) (fun q => .int (q.2 : Nat)) (ev_iEnum (x := tN p.1) (ev_var put_eq) rfl) (fun q hq => ⟨_, rfl, ev_tV (ev_bin (ev_var put_eq) (mnr_ev nr (by and_intros)) eqD_int), fun _ => ev_var (by and_intros)⟩) (by rw [List.length_zipIdx]; omega)
      have lc2 : ∀ E : En, E 0 = some (false, gm G) → E 2 = some (false, .int (p.2 : Nat)) → E 3 = some (false, tN p.1) → E 4 = some (false, .lst (F.map fun q => .int (q.2 : Nat))) → (eLc [5, 6] (iSeq (eVar 4)) (gNm 6) (tV (eBin (pur eqD) (eBin ixD (eVar 3) (eVar 6)) (eFn (g1 fun d => lift (maxD' d)) (lCons (eLc [5, 8] (iSeq (eVar 0)) (gNm 8) tYesS (eBin ixD (eVar 8) (eVar 6))) lNil)))) (eTup (lCons (eVar 2) (lCons (eVar 6) lNil)))) E st = .ok (.lst (surF G p)) st := fun E E0 E2 E3 E4 => by
        apply ev_to
        · exact ev_lc F (fun q => .int (q.2 : Nat)) (fun q => decide (q.1 = mxL (colL G q.2))) (fun q => prE (p.2, q.2)) (ev_iSeq (ev_var E4) rfl) (fun q hq => ⟨_, rfl, ev_tV (ev_bin (ev_ix (ev_var (by and_intros)) (ev_var put_eq) (ix_tI (zi (memF q hq)))) (mxc_ev h (j := q.2) (by have := zl (memF q hq); omega) (by and_intros) put_eq rfl rfl) eqD_int), fun _ => ev_tup (ev_cons (ev_var (by and_intros)) (ev_cons (ev_var put_eq) lNil_eq))⟩) (by omega)
        · unfold surF
          rw [hF, List.filter_filter]
          congr 3
          funext q
          unfold good
          rw [Bool.and_comm]
      refine ⟨_, _, rfl, ev_seq (ev_set lc1) (ev_ext (xs := acc) (put_no (put_no (put_no ka))) (lc2 _ (by and_intros) (by and_intros) (by and_intros) put_eq) (by rw [List.length_nil] at kl; omega)), put_eq, Keep.put (j := 1) (Keep.put (j := 4) (Keep.put (j := 3) (ke.put (j := 2))))⟩)
  rw [List.nil_append, sure_map] at f2
  refine ev_call (s := M_sure_places) ?_
  unfold M_sure_places
  exact ev_seq (ev_own (ev_lst lNil_eq)) (ev_seq f1 (ev_frz f2 (ev_ret (ev_var put_eq))))
theorem law_sure_eq (h : Go w G) : F__law_sure [gm G] st = .ok (.lst ((sure G).map prE)) st := by
  have w3 := h.w3
  obtain ⟨e', f1, f2, _⟩ := for_coll (st := st) (st1 := st) (env := (env0 [gm G]).put 1 true (.lst [])) (W := [1, 2, 3, 4, 5]) (s := 1) (it := iEnumS (eVar 0)) (g := gTp (gCs (gNm 2) (gCs (gNm 3) gNl))) (b := (sFor (iEnumS (eVar 3)) (gTp (gCs (gNm 4) (gCs (gNm 5) gNl))) (sIf (tAnd' (tV (eBin (pur eqD) (eVar 5) (eFn (g1 fun d => lift (minD' d)) (lCons (eVar 3) lNil)))) (tV (eBin (pur eqD) (eVar 5) (eFn (g1 fun d => lift (maxD' d)) (lCons (eLc [6, 7] (iSeq (eVar 0)) (gNm 7) tYesS (eBin ixD (eVar 7) (eVar 4))) lNil))))) (sApp 1 (eTup (lCons (eVar 2) (lCons (eVar 4) lNil)))) sNil)))
    G.zipIdx (fun p => .tup [.int (p.2 : Nat), tN p.1]) (surF G) [] (ev_iEnum (x := gm G) (ev_var rfl) rfl) put_eq (fun p hp e acc ke ka kl => by
      have hr := List.fst_mem_of_mem_zipIdx hp
      have lr := h.len _ hr
      have nr := h.rne hr
      have e0 : e 0 = some (false, gm G) := (ke 0 rfl).trans rfl
      have b9 := sure_le h
      obtain ⟨e2, j1, j2, j3⟩ := for_coll (st := st) (st1 := st) (env := (e.put 2 false (.int (p.2 : Nat))).put 3 false (tN p.1)) (W := [1, 4, 5]) (s := 1) (it := iEnumS (eVar 3)) (g := gTp (gCs (gNm 4) (gCs (gNm 5) gNl))) (b := (sIf (tAnd' (tV (eBin (pur eqD) (eVar 5) (eFn (g1 fun d => lift (minD' d)) (lCons (eVar 3) lNil)))) (tV (eBin (pur eqD) (eVar 5) (eFn (g1 fun d => lift (maxD' d)) (lCons (eLc [6, 7] (iSeq (eVar 0)) (gNm 7) tYesS (eBin ixD (eVar 7) (eVar 4))) lNil))))) (sApp 1 (eTup (lCons (eVar 2) (lCons (eVar 4) lNil)))) sNil))
        p.1.zipIdx (fun q => .tup [.int (q.2 : Nat), .int q.1]) (fun q => if good G p.1 q = true then [prE (p.2, q.2)] else []) acc (ev_iEnum (x := tN p.1) (ev_var put_eq) rfl) (put_no (put_no ka)) (fun q hq e3 acc3 ke3 ka3 kl3 => by
          have x2 : e3 2 = some (false, .int (p.2 : Nat)) := (ke3 2 rfl).trans (put_no put_eq)
          have x3 : e3 3 = some (false, tN p.1) := (ke3 3 rfl).trans put_eq
          have x0 : e3 0 = some (false, gm G) := (ke3 0 rfl).trans (put_no (put_no e0))
          have fl : (p.1.zipIdx.flatMap fun q => if good G p.1 q = true then [prE (p.2, q.2)] else []).length ≤ 9 := by
            rw [filt_if, List.length_map]
            have := List.length_filter_le (good G p.1) p.1.zipIdx
            rw [List.length_zipIdx] at this
            omega
          exact ⟨_, _, rfl, ev_ifApp (ev_tAnd (ev_tV (ev_bin (ev_var put_eq) (mnr_ev nr (by and_intros)) eqD_int)) (fun _ => ev_tV (ev_bin (ev_var put_eq) (mxc_ev h (j := q.2) (by have := zl hq; omega) (by and_intros) (by and_intros) rfl rfl) eqD_int))) (put_no (put_no ka3)) (fun _ => ev_tup (ev_cons (ev_var (by and_intros)) (ev_cons (ev_var (by and_intros)) lNil_eq))) (by rw [List.length_nil] at kl; omega), put_eq, Keep.put (j := 1) (Keep.put (j := 5) (ke3.put (j := 4)))⟩)
      rw [filt_if] at j2
      refine ⟨_, _, rfl, j1, j2, (Keep.put (j := 3) (ke.put (j := 2))).trans (j3.mono fun i hi => ?_)⟩
      simp at hi ⊢
      omega)
  rw [List.nil_append, sure_map] at f2
  refine ev_call (s := M__law_sure) ?_
  unfold M__law_sure
  exact ev_seq (ev_own (ev_lst lNil_eq)) (ev_seq f1 (ev_frz f2 (ev_ret (ev_var put_eq))))
end
end Lw76


set_option Elab.async false
set_option linter.all false
set_option maxRecDepth 100000
set_option maxHeartbeats 2000000
namespace Lw76
open PySem PySem.Spec L2 Sm
local macro_rules | `(tactic| and_intros) => `(tactic| first
  | (show _ = _; with_reducible assumption)
  | with_reducible exact eC_eq
  | with_reducible exact lNil_eq
  | with_reducible exact ev_pNo
  | with_reducible exact put_eq
  | (with_reducible refine put_no ?_ (by rfl)) <;> and_intros
  | (with_reducible refine clr_no ?_ (by rfl)) <;> and_intros
  | (with_reducible apply ev_var) <;> try and_intros
  | (with_reducible apply ev_varB) <;> try and_intros
  | (with_reducible apply ev_cons) <;> try and_intros
  | (with_reducible apply ev_tV) <;> try and_intros
  | (with_reducible apply ev_bin) <;> try and_intros
  | (with_reducible apply ev_ix) <;> try and_intros
  | (with_reducible apply ev_fn) <;> try and_intros
  | (with_reducible apply ev_g1) <;> try and_intros
  | (with_reducible apply ev_g2) <;> try and_intros
  | (with_reducible apply ev_set) <;> try and_intros
  | (with_reducible apply ev_ret) <;> try and_intros
  | (with_reducible apply ev_own) <;> try and_intros
  | (with_reducible apply ev_drop) <;> try and_intros
  | (with_reducible apply ev_tNot) <;> try and_intros
  | (with_reducible apply ev_tAnd) <;> try and_intros
  | (with_reducible apply ev_tOr) <;> try and_intros
  | (with_reducible apply ev_and) <;> try and_intros
  | (with_reducible apply ev_or) <;> try and_intros
  | (with_reducible apply ev_not) <;> try and_intros
  | (with_reducible apply ev_neg) <;> try and_intros
  | (with_reducible apply ev_if) <;> try and_intros
  | (with_reducible apply ev_chain) <;> try and_intros
  | (with_reducible apply ev_tup) <;> try and_intros
  | (with_reducible apply ev_lst) <;> try and_intros
  | (with_reducible apply ev_isa) <;> try and_intros
  | (with_reducible apply ev_lcM) <;> try and_intros
  | (with_reducible apply ev_lc) <;> try and_intros
  | (with_reducible apply ev_iSeq) <;> try and_intros
  | (with_reducible apply ev_iRng) <;> try and_intros
  | (with_reducible apply ev_iEnum) <;> try and_intros
  | (with_reducible apply ev_iZip) <;> try and_intros
  | (with_reducible apply ev_sl) <;> try and_intros
  | (with_reducible apply ev_pAt) <;> try and_intros
  | (with_reducible apply ev_rev) <;> try and_intros
  | (with_reducible apply ev_dct1) <;> try and_intros
  | (with_reducible apply ev_lenSet) <;> try and_intros
  | (with_reducible apply ev_srtSet) <;> try and_intros
  | (with_reducible apply ev_rgL1) <;> try and_intros
  | (with_reducible apply ev_seqNever) <;> try and_intros
  | (with_reducible apply ev_never) <;> try and_intros
  | (with_reducible apply ev_seqIfSet) <;> try and_intros
  | (with_reducible apply ev_ifRet) <;> try and_intros
  | (with_reducible apply ev_ifElse) <;> try and_intros
  | (with_reducible apply ev_seq) <;> try and_intros
  | (with_reducible apply ev_frz) <;> try and_intros
  | (with_reducible apply ev_frzNo) <;> try and_intros
  | (with_reducible apply ev_par) <;> try and_intros
  | (with_reducible apply ev_par2) <;> try and_intros
  | (with_reducible apply ev_par3) <;> try and_intros
  | (with_reducible apply ev_asg) <;> try and_intros
  | (with_reducible apply ev_app) <;> try and_intros
  | (with_reducible apply ev_ext) <;> try and_intros
  | with_reducible exact addA_int
  | with_reducible exact subD_int
  | with_reducible exact eqD_int
  | with_reducible exact neD_int
  | with_reducible exact ltD_int
  | with_reducible exact leD_int
  | with_reducible exact gtD_int
  | with_reducible exact geD_int
  | with_reducible exact eqD_str
  | with_reducible exact neD_str
  | with_reducible exact lenD_tup'
  | with_reducible exact lenD_lst'
  | with_reducible exact lenD_tup
  | with_reducible exact lenD_lst
  | with_reducible exact tupD_lst
  | with_reducible exact tupD_tup
  | with_reducible exact listD_lst
  | with_reducible exact listD_tup
  | with_reducible exact intD_int
  | with_reducible exact intD_bl
  | with_reducible exact absD_int
  | with_reducible exact allD_p _ _
  | with_reducible exact anyD_p _ _
  | with_reducible exact revD_tup'
  | with_reducible exact revD_lst'
  | with_reducible exact slA_tup'
  | with_reducible exact slA_lst'
  | with_reducible exact sumD_f
  | with_reducible exact inD_ints
  | with_reducible exact inD_intsL
  | with_reducible exact ninD_ints
  | with_reducible exact ninD_intsL
  | with_reducible exact repI
  | (with_reducible apply modD_int) <;> omega
  | (with_reducible apply mulS_l) <;> omega
  | (with_reducible apply mulS_r) <;> omega
  | (with_reducible apply add_tup) <;> try and_intros
  | (with_reducible apply add_lst) <;> try and_intros
  | (with_reducible apply ix_tup) <;> try and_intros
  | (with_reducible apply ix_lst) <;> try and_intros
  | (with_reducible apply ix_tup0) <;> try and_intros
  | (with_reducible apply ix_lst0) <;> try and_intros
  | (with_reducible apply ix_tupL) <;> try and_intros
  | (with_reducible apply ix_lstL) <;> try and_intros
  | (with_reducible apply ev_isOp) <;> try and_intros
  | (with_reducible apply ev_isntOp) <;> try and_intros
  | (with_reducible apply eqD_gen) <;> try and_intros
  | (with_reducible apply neD_gen) <;> try and_intros
  | (show _ ≠ _; first | omega | (simp only [decide_eq_false_iff_not, decide_eq_true_eq] at *; omega) | (simp_all; done) | (simp_all; omega) | skip)
  | (refine fun x hx => ⟨_, rfl, ?_, fun hp => ?_⟩) <;> try and_intros
  | (refine fun x hx => ⟨_, rfl, ?_⟩) <;> try and_intros
  | (with_reducible refine fun (_ : _ = _) => ?_) <;> try and_intros
  | rfl
  | omega
  | (simp only [decide_eq_false_iff_not, decide_eq_true_eq] at *; omega)
  | (simp; done)
  | (simp; omega)
  | (simp_all; done)
  | (simp_all; omega))
def flr (G : Gm) : Int := mxL (G.map mnL)
def tops (G : Gm) (w : Nat) : List Int := (List.range w).map fun j => mxL (colL G j)
def clg (G : Gm) (w : Nat) : Int := mnL (tops G w)
def wrs (a b : List Int) : Bool := (a.zip b).all (fun p => decide (p.1 ≤ p.2)) && !decide (a = b)
def wor (G : Gm) : List Int := (G.zipIdx.filter fun p => G.any (wrs p.1)).map fun p => ((p.2 : Nat) : Int)
def trn (G : Gm) (w : Nat) : Gm := (List.range w).map fun j => G.map fun r => 0 - r.getD j 0
section
variable {w : Nat} {G : Gm} {st : Store} {e : En}
theorem rwl (h : Go w G) : List.range w ≠ [] := fun e => by have := congrArg List.length e; have := h.w1; simp at *; omega
theorem len0_ev {i : Nat} (h : Go w G) (hi : e i = some (false, gm G)) : eFn (g1 fun d => lift (lenD d)) (lCons (eBin ixD (eVar i) (eC (.int 0))) lNil) e st = .ok (.int (w : Nat)) st :=
  ev_to (ev_fn (ev_cons (ev_ix (ev_var hi) eC_eq (ix_tup0 (f := tN) h.nz)) lNil_eq) (ev_g1 lenD_tup')) (by rw [h.hdl])
theorem mins_ev {a b i : Nat} (h : Go w G) (hi : e i = some (false, gm G)) : eFn (g1 fun d => lift (maxD' d)) (lCons (eLc [a, b] (iSeq (eVar i)) (gNm b) tYesS (eFn (g1 fun d => lift (minD' d)) (lCons (eVar b) lNil))) lNil) e st = .ok (.int (flr G)) st := by
  have := h.h3
  exact ev_fn (ev_cons (ev_lcM G tN (fun r => .int (mnL r)) (ev_iSeq (ev_var hi) rfl) (fun r hr => ⟨_, rfl, mnr_ev (h.rne hr) put_eq⟩) (by omega)) lNil_eq) (ev_g1 (maxD_f h.ne))
theorem floor_eq (h : Go w G) : F_floor_of [gm G] st = .ok (.int (flr G)) st := by
  refine ev_call (s := M_floor_of) ?_
  unfold M_floor_of
  exact ev_seq (ev_drop (ev_fn (by and_intros) (cg_ok h))) (ev_ret (mins_ev h rfl))
theorem tops_ev {a b c i : Nat} (h : Go w G) (hi : e i = some (false, gm G)) (q1 : [a, b].contains i = false) (q2 : (i == b) = false) (q3 : [a, c].contains b = false) (q4 : (b == c) = false) : (eLc [a, b] (iRng1S (eFn (g1 fun d => lift (lenD d)) (lCons (eBin ixD (eVar i) (eC (.int 0))) lNil))) (gNm b) tYesS (eFn (g1 fun d => lift (maxD' d)) (lCons (eLc [a, c] (iSeq (eVar i)) (gNm c) tYesS (eBin ixD (eVar c) (eVar b))) lNil))) e st = .ok (lN (tops G w)) st := by
  have w3 := h.w3
  apply ev_to
  · exact ev_lcM (List.range w) (fun j => .int (j : Nat)) (fun j => .int (mxL (colL G j))) (ev_iRng (len0_ev h hi) (by omega)) (fun j hj => ⟨_, rfl, mxc_ev h (j := j) (List.mem_range.mp hj) (put_no (clr_no hi q1) q2) put_eq q3 q4⟩) (by simp; omega)
  · unfold tops
    show _ = D.lst (List.map D.int (List.map _ _))
    rw [List.map_map]
    rfl
theorem tops_ne (h : Go w G) : tops G w ≠ [] := by
  unfold tops
  simpa using rwl h
theorem ceiling_eq (h : Go w G) : F_ceiling_of [gm G] st = .ok (.int (clg G w)) st := by
  refine ev_call (s := M_ceiling_of) ?_
  unfold M_ceiling_of
  exact ev_seq (ev_drop (ev_fn (by and_intros) (cg_ok h))) (ev_ret (ev_fn (ev_cons (tops_ev h rfl rfl rfl rfl rfl) lNil_eq) (ev_g1 (minD_l (tops_ne h)))))
theorem law_tops_eq (h : Go w G) : F__law_tops [gm G] st = .ok (lN (tops G w)) st := by
  refine ev_call (s := M__law_tops) ?_
  unfold M__law_tops
  exact ev_ret (tops_ev h rfl rfl rfl rfl rfl)
theorem is_worse_eq {a b : List Int} (ha : a.length ≤ 3) : F_is_worse [tN a, tN b] st = .ok (.bl (wrs a b)) st := by
  refine ev_call (s := M_is_worse) ?_
  unfold M_is_worse
  apply ev_to
  · refine ev_ret (ev_and (ev_fn (ev_cons (ev_lcM (a.zip b) (fun p => .tup [.int p.1, .int p.2]) (fun p => .bl (decide (p.1 ≤ p.2))) (ev_iZip (x := tN a) (y := tN b) (ev_var rfl) (ev_var rfl) rfl rfl) (fun x hx => ⟨_, rfl, ev_bin (ev_var (put_no put_eq)) (ev_var put_eq) leD_int⟩) (by simp; omega)) lNil_eq) (ev_g1 (allD_p _ _))) fun _ => ev_bin (ev_var rfl) (ev_var rfl) (neD_gen (by simp) (by simp)))
  · rw [eqv_tN]
    rfl
theorem law_worse_eq {a b : List Int} (ha : a.length ≤ 3) : F__law_is_worse [tN a, tN b] st = .ok (.bl (wrs a b)) st := is_worse_eq ha
theorem wor_ev {a b c i d : Nat} {F : Fx} (h : Go w G) (hF : ∀ a b : List Int, a.length ≤ 3 → F [tN a, tN b] st = .ok (.bl (wrs a b)) st) (hi : e i = some (false, gm G)) (q0 : (b == c) = false) (q1 : [a, b, c].contains i = false) (q2 : (i == c) = false) (q2' : (i == b) = false) (q3 : [a, d].contains c = false) (q4 : (c == d) = false) : (eLc [a, b, c] (iEnumS (eVar i)) (gTp (gCs (gNm b) (gCs (gNm c) gNl))) (tV (eFn (g1 fun d => lift (anyD d)) (lCons (eLc [a, d] (iSeq (eVar i)) (gNm d) tYesS (eFn F (lCons (eVar c) (lCons (eVar d) lNil)))) lNil))) (eVar b)) e st = .ok (lN (wor G)) st := by
  have l3 := h.h3
  have w3 := h.w3
  apply ev_to
  · refine ev_lc G.zipIdx (fun p => .tup [.int (p.2 : Nat), tN p.1]) (fun p => G.any (wrs p.1)) (fun p => .int (p.2 : Nat)) (ev_iEnum (x := gm G) (ev_var hi) rfl) (fun p hp => ⟨_, rfl, ev_tV (ev_fn (ev_cons (ev_lcM G tN (fun r => .bl (wrs p.1 r)) (ev_iSeq (ev_var (put_no (put_no (clr_no hi q1) q2') q2)) rfl) (fun r hr => ⟨_, rfl, ev_fn (ev_cons (ev_var (put_no (clr_no put_eq q3) q4)) (ev_cons (ev_var put_eq) lNil_eq)) (hF _ _ (by have := h.len _ (List.fst_mem_of_mem_zipIdx hp); omega))⟩) (by omega)) lNil_eq) (ev_g1 (anyD_p _ _))), fun _ => ev_var (put_no put_eq q0)⟩) (by rw [List.length_zipIdx]; omega)
  · unfold wor
    show _ = D.lst (List.map D.int (List.map _ _))
    rw [List.map_map]
    rfl
theorem worse_eq (h : Go w G) : F_worse_rows [gm G] st = .ok (tN (wor G)) st := by
  refine ev_call (s := M_worse_rows) ?_
  unfold M_worse_rows
  exact ev_seq (ev_drop (ev_fn (by and_intros) (cg_ok h))) (ev_ret (ev_fn (ev_cons (wor_ev h (fun a b ha => is_worse_eq ha) rfl rfl rfl rfl rfl rfl rfl) lNil_eq) (ev_g1 tupD_lst)))
theorem trn_ev {a b c i : Nat} (h : Go w G) (hi : e i = some (false, gm G)) (q1 : [a, b].contains i = false) (q2 : (i == b) = false) (q3 : [a, c].contains b = false) (q4 : (b == c) = false) : (eFn (g1 fun d => lift (tupD d)) (lCons (eLc [a, b] (iRng1S (eFn (g1 fun d => lift (lenD d)) (lCons (eBin ixD (eVar i) (eC (.int 0))) lNil))) (gNm b) tYesS (eFn (g1 fun d => lift (tupD d)) (lCons (eLc [a, c] (iSeq (eVar i)) (gNm c) tYesS (eBin (pur subD) (eC (.int 0)) (eBin ixD (eVar c) (eVar b)))) lNil))) lNil)) e st = .ok (gm (trn G w)) st := by
  have w3 := h.w3
  have l3 := h.h3
  apply ev_to
  · exact ev_fn (ev_cons (ev_lcM (List.range w) (fun j => .int (j : Nat)) (fun j => .tup (G.map fun r => .int (0 - r.getD j 0))) (ev_iRng (len0_ev h hi) (by omega)) (fun j hj => ⟨_, rfl, ev_fn (ev_cons (ev_lcM G tN (fun r => .int (0 - r.getD j 0)) (ev_iSeq (ev_var (put_no (clr_no hi q1) q2)) rfl) (fun r hr => ⟨_, rfl, ev_bin eC_eq (ev_ix (ev_var put_eq) (ev_var (put_no (clr_no put_eq q3) q4)) (ix_tI (getD_some (by rw [h.len r hr]; exact List.mem_range.mp hj)))) subD_int⟩) (by omega)) lNil_eq) (ev_g1 tupD_lst)⟩) (by simp; omega)) lNil_eq) (ev_g1 tupD_lst)
  · unfold trn
    show _ = D.tup (List.map tN (List.map _ _))
    rw [List.map_map]
    congr 2
    funext j
    show _ = D.tup (List.map D.int (List.map _ _))
    rw [List.map_map]
    rfl
theorem turned_eq (h : Go w G) : F_turned_game [gm G] st = .ok (gm (trn G w)) st := by
  refine ev_call (s := M_turned_game) ?_
  unfold M_turned_game
  exact ev_seq (ev_drop (ev_fn (by and_intros) (cg_ok h))) (ev_ret (trn_ev h rfl rfl rfl rfl rfl))
/-! ### plain facts -/
theorem trn_go (h : Go w G) : Go G.length (trn G w) := by
  have w1 := h.w1
  have w3 := h.w3
  refine ⟨by simp [trn]; omega, by simp [trn]; omega, h.h1, h.h3, ?_, ?_⟩
  · intro r hr
    obtain ⟨j, _, rfl⟩ := List.mem_map.mp hr
    simp
  · intro r hr x hx
    obtain ⟨j, hj, rfl⟩ := List.mem_map.mp hr
    obtain ⟨s, hs, rfl⟩ := List.mem_map.mp hx
    have hl := h.len s hs
    have : s.getD j 0 ∈ s := Sm.getD_mem (by rw [hl]; exact List.mem_range.mp hj)
    have := h.rng s hs _ this
    omega
theorem rng_getD {l : List Int} : (List.range l.length).map (fun j => l.getD j 0) = l := by
  apply List.ext_getElem
  · simp
  · intro i h1 h2
    rw [List.getElem_map, List.getElem_range, List.getD_eq_getElem?_getD, List.getElem?_eq_getElem h2]
    rfl
theorem rng_rows {β : Type} {l : Gm} {f : List Int → β} : (List.range l.length).map (fun j => f (l.getD j [])) = l.map f := by
  apply List.ext_getElem
  · simp
  · intro i h1 h2
    rw [List.length_map] at h2
    rw [List.getElem_map, List.getElem_map, List.getElem_range, List.getD_eq_getElem?_getD, List.getElem?_eq_getElem h2]
    rfl
theorem map_getD {l : Gm} {f : List Int → Int} {i : Nat} (h : i < l.length) : (l.map f).getD i 0 = f (l.getD i []) := by
  rw [List.getD_eq_getElem?_getD, List.getD_eq_getElem?_getD, List.getElem?_map, List.getElem?_eq_getElem h]
  rfl
/-- a row, signs turned -/
def ng (l : List Int) : List Int := l.map fun x => 0 - x
theorem col_trn (h : Go w G) {i : Nat} (hi : i < G.length) : colL (trn G w) i = ng (G.getD i []) := by
  have hr : G.getD i [] ∈ G := Sm.getD_mem hi
  have hl := h.len _ hr
  unfold colL trn ng
  rw [List.map_map]
  conv => rhs; rw [← rng_getD (l := G.getD i []), hl, List.map_map]
  refine List.map_congr_left fun j _ => ?_
  show (G.map fun r => 0 - r.getD j 0).getD i 0 = _
  rw [map_getD hi]
  rfl
theorem trn_trn (h : Go w G) : trn (trn G w) G.length = G := by
  have e : ∀ i, i < G.length → ((trn G w).map fun r => 0 - r.getD i 0) = G.getD i [] := fun i hi => by
    have c := col_trn h hi
    have : ((trn G w).map fun r => 0 - r.getD i 0) = ng (colL (trn G w) i) := by
      unfold ng colL
      rw [List.map_map]
      rfl
    rw [this, c]
    unfold ng
    rw [List.map_map]
    conv => rhs; rw [← List.map_id (G.getD i [])]
    exact List.map_congr_left fun x _ => by show 0 - (0 - x) = x; omega
  show (List.range G.length).map (fun j => (trn G w).map fun r => 0 - r.getD j 0) = G
  rw [List.map_congr_left fun i hi => e i (List.mem_range.mp hi)]
  have := rng_rows (l := G) (f := id)
  simpa using this
theorem mn_ng {l : List Int} (h : l ≠ []) : mnL (ng l) = 0 - mxL l := by
  refine mnL_eq (List.mem_map.mpr ⟨_, mxL_mem h, rfl⟩) fun y hy => ?_
  obtain ⟨x, hx, rfl⟩ := List.mem_map.mp hy
  have := mxL_le hx
  omega
theorem mx_ng {l : List Int} (h : l ≠ []) : mxL (ng l) = 0 - mnL l := by
  refine mxL_eq (List.mem_map.mpr ⟨_, mnL_mem h, rfl⟩) fun y hy => ?_
  obtain ⟨x, hx, rfl⟩ := List.mem_map.mp hy
  have := mnL_le hx
  omega
theorem col_ne (h : Go w G) (j : Nat) : colL G j ≠ [] := by
  unfold colL
  simpa using h.ne
theorem row_trn {j : Nat} : (G.map fun r => 0 - r.getD j 0) = ng (colL G j) := by
  unfold ng colL
  rw [List.map_map]
  rfl
theorem flr_trn (h : Go w G) : flr (trn G w) = 0 - clg G w := by
  unfold flr clg trn
  rw [List.map_map]
  have : (List.range w).map (mnL ∘ fun j => G.map fun r => 0 - r.getD j 0) = ng (tops G w) := by
    unfold tops
    show _ = List.map _ (List.map _ _)
    rw [List.map_map]
    refine List.map_congr_left fun j _ => ?_
    show mnL (G.map fun r => 0 - r.getD j 0) = _
    rw [row_trn, mn_ng (col_ne h j)]
    rfl
  rw [this, mx_ng (tops_ne h)]
theorem clg_trn (h : Go w G) : clg (trn G w) G.length = 0 - flr G := by
  unfold clg flr
  have : tops (trn G w) G.length = ng (G.map mnL) := by
    unfold tops ng
    rw [List.map_map, ← rng_rows]
    refine List.map_congr_left fun i hi => ?_
    have hi' := List.mem_range.mp hi
    have hr : G.getD i [] ∈ G := Sm.getD_mem hi'
    rw [col_trn h hi', mx_ng (h.rne hr)]
    rfl
  rw [this, mn_ng (by simpa using h.ne)]
end
end Lw76


set_option Elab.async false
set_option linter.all false
set_option maxRecDepth 100000
set_option maxHeartbeats 2000000
namespace Lw76
open PySem PySem.Spec L2 Sm
local macro_rules | `(tactic| and_intros) => `(tactic| first
  | (show _ = _; with_reducible assumption)
  | with_reducible exact eC_eq
  | with_reducible exact lNil_eq
  | with_reducible exact ev_pNo
  | with_reducible exact put_eq
  | (with_reducible refine put_no ?_ (by rfl)) <;> and_intros
  | (with_reducible refine clr_no ?_ (by rfl)) <;> and_intros
  | (with_reducible apply ev_var) <;> try and_intros
  | (with_reducible apply ev_varB) <;> try and_intros
  | (with_reducible apply ev_cons) <;> try and_intros
  | (with_reducible apply ev_tV) <;> try and_intros
  | (with_reducible apply ev_bin) <;> try and_intros
  | (with_reducible apply ev_ix) <;> try and_intros
  | (with_reducible apply ev_fn) <;> try and_intros
  | (with_reducible apply ev_g1) <;> try and_intros
  | (with_reducible apply ev_g2) <;> try and_intros
  | (with_reducible apply ev_set) <;> try and_intros
  | (with_reducible apply ev_ret) <;> try and_intros
  | (with_reducible apply ev_own) <;> try and_intros
  | (with_reducible apply ev_drop) <;> try and_intros
  | (with_reducible apply ev_tNot) <;> try and_intros
  | (with_reducible apply ev_tAnd) <;> try and_intros
  | (with_reducible apply ev_tOr) <;> try and_intros
  | (with_reducible apply ev_and) <;> try and_intros
  | (with_reducible apply ev_or) <;> try and_intros
  | (with_reducible apply ev_not) <;> try and_intros
  | (with_reducible apply ev_neg) <;> try and_intros
  | (with_reducible apply ev_if) <;> try and_intros
  | (with_reducible apply ev_chain) <;> try and_intros
  | (with_reducible apply ev_tup) <;> try and_intros
  | (with_reducible apply ev_lst) <;> try and_intros
  | (with_reducible apply ev_isa) <;> try and_intros
  | (with_reducible apply ev_lcM) <;> try and_intros
  | (with_reducible apply ev_lc) <;> try and_intros
  | (with_reducible apply ev_iSeq) <;> try and_intros
  | (with_reducible apply ev_iRng) <;> try and_intros
  | (with_reducible apply ev_iEnum) <;> try and_intros
  | (with_reducible apply ev_iZip) <;> try and_intros
  | (with_reducible apply ev_sl) <;> try and_intros
  | (with_reducible apply ev_pAt) <;> try and_intros
  | (with_reducible apply ev_rev) <;> try and_intros
  | (with_reducible apply ev_dct1) <;> try and_intros
  | (with_reducible apply ev_lenSet) <;> try and_intros
  | (with_reducible apply ev_srtSet) <;> try and_intros
  | (with_reducible apply ev_rgL1) <;> try and_intros
  | (with_reducible apply ev_seqNever) <;> try and_intros
  | (with_reducible apply ev_never) <;> try and_intros
  | (with_reducible apply ev_seqIfSet) <;> try and_intros
  | (with_reducible apply ev_ifRet) <;> try and_intros
  | (with_reducible apply ev_ifElse) <;> try and_intros
  | (with_reducible apply ev_seq) <;> try and_intros
  | (with_reducible apply ev_frz) <;> try and_intros
  | (with_reducible apply ev_frzNo) <;> try and_intros
  | (with_reducible apply ev_par) <;> try and_intros
  | (with_reducible apply ev_par2) <;> try and_intros
  | (with_reducible apply ev_par3) <;> try and_intros
  | (with_reducible apply ev_asg) <;> try and_intros
  | (with_reducible apply ev_app) <;> try and_intros
  | (with_reducible apply ev_ext) <;> try and_intros
  | with_reducible exact addA_int
  | with_reducible exact subD_int
  | with_reducible exact eqD_int
  | with_reducible exact neD_int
  | with_reducible exact ltD_int
  | with_reducible exact leD_int
  | with_reducible exact gtD_int
  | with_reducible exact geD_int
  | with_reducible exact eqD_str
  | with_reducible exact neD_str
  | with_reducible exact lenD_tup'
  | with_reducible exact lenD_lst'
  | with_reducible exact lenD_tup
  | with_reducible exact lenD_lst
  | with_reducible exact tupD_lst
  | with_reducible exact tupD_tup
  | with_reducible exact listD_lst
  | with_reducible exact listD_tup
  | with_reducible exact intD_int
  | with_reducible exact intD_bl
  | with_reducible exact absD_int
  | with_reducible exact allD_p _ _
  | with_reducible exact anyD_p _ _
  | with_reducible exact revD_tup'
  | with_reducible exact revD_lst'
  | with_reducible exact slA_tup'
  | with_reducible exact slA_lst'
  | with_reducible exact sumD_f
  | with_reducible exact inD_ints
  | with_reducible exact inD_intsL
  | with_reducible exact ninD_ints
  | with_reducible exact ninD_intsL
  | with_reducible exact repI
  | (with_reducible apply modD_int) <;> omega
  | (with_reducible apply mulS_l) <;> omega
  | (with_reducible apply mulS_r) <;> omega
  | (with_reducible apply add_tup) <;> try and_intros
  | (with_reducible apply add_lst) <;> try and_intros
  | (with_reducible apply ix_tup) <;> try and_intros
  | (with_reducible apply ix_lst) <;> try and_intros
  | (with_reducible apply ix_tup0) <;> try and_intros
  | (with_reducible apply ix_lst0) <;> try and_intros
  | (with_reducible apply ix_tupL) <;> try and_intros
  | (with_reducible apply ix_lstL) <;> try and_intros
  | (with_reducible apply ev_isOp) <;> try and_intros
  | (with_reducible apply ev_isntOp) <;> try and_intros
  | (with_reducible apply eqD_gen) <;> try and_intros
  | (with_reducible apply neD_gen) <;> try and_intros
  | (show _ ≠ _; first | omega | (simp only [decide_eq_false_iff_not, decide_eq_true_eq] at *; omega) | (simp_all; done) | (simp_all; omega) | skip)
  | (refine fun x hx => ⟨_, rfl, ?_, fun hp => ?_⟩) <;> try and_intros
  | (refine fun x hx => ⟨_, rfl, ?_⟩) <;> try and_intros
  | (with_reducible refine fun (_ : _ = _) => ?_) <;> try and_intros
  | rfl
  | omega
  | (simp only [decide_eq_false_iff_not, decide_eq_true_eq] at *; omega)
  | (simp; done)
  | (simp; omega)
  | (simp_all; done)
  | (simp_all; omega))
section
variable {w : Nat} {G : Gm} {st : Store} {e : En}
/-! ### sure places -/
theorem mem_sure {i j : Nat} : (i, j) ∈ sure G ↔ ∃ r x, G[i]? = some r ∧ r[j]? = some x ∧ x = mnL r ∧ x = mxL (colL G j) := by
  unfold sure good
  simp only [List.mem_flatMap, List.mem_map, List.mem_filter, Prod.exists, List.mem_zipIdx_iff_getElem?, Bool.and_eq_true, decide_eq_true_eq, Prod.mk.injEq]
  constructor
  · rintro ⟨r, i', h1, x, j', ⟨h2, h3, h4⟩, rfl, rfl⟩
    exact ⟨r, x, h1, h2, h3, h4⟩
  · rintro ⟨r, x, h1, h2, h3, h4⟩
    exact ⟨r, i, h1, x, j, ⟨h2, h3, h4⟩, rfl, rfl⟩
theorem get_mem {α : Type} {l : List α} {i : Nat} {x : α} (h : l[i]? = some x) : x ∈ l := List.mem_of_getElem? h
theorem get_lt {α : Type} {l : List α} {i : Nat} {x : α} (h : l[i]? = some x) : i < l.length := (List.getElem?_eq_some_iff.mp h).1
theorem getD_of {l : List Int} {i : Nat} {x : Int} (h : l[i]? = some x) : l.getD i 0 = x := by rw [List.getD_eq_getElem?_getD, h]; rfl
theorem flr_le (h : Go w G) : flr G ≤ clg G w := by
  obtain ⟨r, hr, e1⟩ := List.mem_map.mp (mxL_mem (l := G.map mnL) (by simpa using h.ne))
  obtain ⟨j, hj, e2⟩ := List.mem_map.mp (mnL_mem (tops_ne h))
  have hj' := List.mem_range.mp hj
  have e2 : mxL (colL G j) = mnL (tops G w) := e2
  have m1 : r.getD j 0 ∈ r := Sm.getD_mem (by rw [h.len r hr]; exact hj')
  have m2 : r.getD j 0 ∈ colL G j := List.mem_map.mpr ⟨r, hr, rfl⟩
  have := mnL_le m1
  have := mxL_le m2
  unfold flr clg
  rw [← e1, ← e2]
  omega
theorem worth (h : Go w G) {i j : Nat} (hs : (i, j) ∈ sure G) : ∃ r, G[i]? = some r ∧ r[j]? = some (flr G) ∧ flr G = clg G w := by
  obtain ⟨r, x, h1, h2, h3, h4⟩ := mem_sure.mp hs
  have hr := get_mem h1
  have hj : j < w := by have := get_lt h2; rw [h.len r hr] at this; exact this
  have a1 : mnL r ≤ flr G := mxL_le (List.mem_map.mpr ⟨r, hr, rfl⟩)
  have a2 : clg G w ≤ mxL (colL G j) := mnL_le (List.mem_map.mpr ⟨j, List.mem_range.mpr hj, rfl⟩)
  have a3 := flr_le h
  have e1 : x = flr G := by omega
  exact ⟨r, h1, by rw [← e1]; exact h2, by omega⟩
theorem flr_clg (h : Go w G) (e : flr G = clg G w) : sure G ≠ [] := by
  obtain ⟨r, hr, e1⟩ := List.mem_map.mp (mxL_mem (l := G.map mnL) (by simpa using h.ne))
  obtain ⟨j, hj, e2⟩ := List.mem_map.mp (mnL_mem (tops_ne h))
  have hj' := List.mem_range.mp hj
  have e2 : mxL (colL G j) = mnL (tops G w) := e2
  have hl : j < r.length := by rw [h.len r hr]; exact hj'
  have m1 : r.getD j 0 ∈ r := Sm.getD_mem hl
  have m2 : r.getD j 0 ∈ colL G j := List.mem_map.mpr ⟨r, hr, rfl⟩
  have b1 := mnL_le m1
  have b2 := mxL_le m2
  unfold flr clg at e
  obtain ⟨i, hi, hi2⟩ := List.mem_iff_getElem.mp hr
  have : (i, j) ∈ sure G := mem_sure.mpr ⟨r, r.getD j 0, by rw [List.getElem?_eq_getElem hi, hi2], getD_some hl, by omega, by omega⟩
  intro z
  rw [z] at this
  cases this
theorem sure_iff (h : Go w G) : flr G = clg G w ↔ sure G ≠ [] := ⟨flr_clg h, fun hn => by
  obtain ⟨p, hp⟩ := List.exists_mem_of_ne_nil _ hn
  obtain ⟨r, _, _, e⟩ := worth h (i := p.1) (j := p.2) hp
  exact e⟩
/-! ### in order -/
abbrev en2 (p : Nat × Nat) : List Int := [(p.1 : Int), (p.2 : Int)]
theorem lex2 {p q : Nat × Nat} (h : p.1 < q.1 ∨ p.1 = q.1 ∧ p.2 < q.2) : lexB (en2 p) (en2 q) = true := by
  unfold en2 lexB
  rcases h with h | ⟨h1, h2⟩
  · rw [if_neg (by omega)]; simp; exact h
  · rw [if_pos (by omega)]
    unfold lexB
    rw [if_neg (by omega)]; simp; exact h2
theorem zi_pw {α : Type} (l : List α) : l.zipIdx.Pairwise fun a b => a.2 < b.2 := by
  rw [List.pairwise_iff_getElem]
  intro i j hi hj hij
  simp [List.getElem_zipIdx]
  exact hij
theorem sure_pw : (sure G).Pairwise fun p q => lexB (en2 p) (en2 q) = true := by
  unfold sure
  rw [List.pairwise_flatMap]
  constructor
  · intro p hp
    rw [List.pairwise_map]
    exact List.Pairwise.imp (R := fun (a b : Int × Nat) => a.2 < b.2) (fun {a b} h => lex2 (p := (p.2, a.2)) (q := (p.2, b.2)) (.inr ⟨rfl, h⟩)) ((zi_pw p.1).sublist List.filter_sublist)
  · refine (zi_pw G).imp fun {p q} h => ?_
    intro x hx y hy
    obtain ⟨a, _, rfl⟩ := List.mem_map.mp hx
    obtain ⟨b, _, rfl⟩ := List.mem_map.mp hy
    exact lex2 (.inl h)
theorem sure_nd : (sure G).Nodup := (sure_pw (G := G)).imp fun {p q} h e => by
  subst e
  rw [lexB_self] at h
  cases h
theorem sure_trn1 (h : Go w G) {i j : Nat} (hs : (i, j) ∈ sure G) : (j, i) ∈ sure (trn G w) := by
  obtain ⟨r, x, h1, h2, h3, h4⟩ := mem_sure.mp hs
  have hr := get_mem h1
  have hj : j < w := by have := get_lt h2; rw [h.len r hr] at this; exact this
  have hi := get_lt h1
  have e1 : (trn G w)[j]? = some (ng (colL G j)) := by
    unfold trn
    rw [List.getElem?_map, List.getElem?_range hj, ← row_trn]
    rfl
  have e2 : (ng (colL G j))[i]? = some (0 - x) := by
    unfold ng colL
    rw [List.getElem?_map, List.getElem?_map, h1]
    show some (0 - r.getD j 0) = _
    rw [getD_of h2]
  have e3 : G.getD i [] = r := by rw [List.getD_eq_getElem?_getD, h1]; rfl
  refine mem_sure.mpr ⟨_, _, e1, e2, ?_, ?_⟩
  · rw [mn_ng (col_ne h j)]; omega
  · rw [col_trn h hi, e3, mx_ng (h.rne hr)]; omega
theorem sure_trn (h : Go w G) {i j : Nat} : (j, i) ∈ sure (trn G w) ↔ (i, j) ∈ sure G := ⟨fun hs => by
  have := sure_trn1 (trn_go h) hs
  rwa [trn_trn h] at this, sure_trn1 h⟩
theorem sure_perm (h : Go w G) : (sure (trn G w)).Perm ((sure G).map fun p => (p.2, p.1)) := by
  refine (List.perm_ext_iff_of_nodup sure_nd ?_).mpr fun p => ?_
  · refine List.pairwise_map.mpr (sure_nd.imp fun {p q} h e => h ?_)
    simp only [Prod.mk.injEq] at e
    exact Prod.ext e.2 e.1
  · rw [List.mem_map]
    constructor
    · intro hp
      exact ⟨(p.2, p.1), (sure_trn h).mp hp, rfl⟩
    · rintro ⟨q, hq, rfl⟩
      exact (sure_trn h).mpr hq
theorem swap_sort (h : Go w G) : sortD (.lst ((sure G).map fun p => prE (p.2, p.1))) = some (.lst ((sure (trn G w)).map prE)) := by
  have e := sortD_tN (l := (sure G).map fun p => en2 (p.2, p.1)) (c := (sure (trn G w)).map en2) (by
    intro a ha
    obtain ⟨p, _, rfl⟩ := List.mem_map.mp ha
    simp) (by
    have := (sure_perm h).map en2
    rwa [List.map_map] at this) (List.pairwise_map.mpr sure_pw)
  rw [List.map_map, List.map_map] at e
  exact e
/-! ### what is told -/
def dueD (S : List (Nat × Nat)) : D := match S with
  | [] => .tup [.str "mixed"]
  | p :: _ => .tup [.str "sure", .int (p.1 : Nat), .int (p.2 : Nat)]
theorem due_ev {S : List (Nat × Nat)} {i : Nat} (hi : e i = some (false, .lst (S.map prE))) : (eIf (tV (eBin (pur gtD) (eFn (g1 fun d => lift (lenD d)) (lCons (eVar i) lNil)) (eC (.int 0)))) (eBin (pur addA) (eTup (lCons (eC (.str "sure")) lNil)) (eBin ixD (eVar i) (eC (.int 0)))) (eTup (lCons (eC (.str "mixed")) lNil))) e st = .ok (dueD S) st := by
  cases S with
  | nil =>
    rw [eIf_eq (c := false) (st1 := st) (ev_tV (ev_bin (ev_fn (ev_cons (ev_var hi) lNil_eq) (ev_g1 lenD_lst')) eC_eq (by rw [gtD_int]; rfl)))]
    exact ev_tup (ev_cons eC_eq lNil_eq)
  | cons p S =>
    rw [eIf_eq (c := true) (st1 := st) (ev_tV (ev_bin (ev_fn (ev_cons (ev_var hi) lNil_eq) (ev_g1 lenD_lst')) eC_eq (by rw [gtD_int]; simp)))]
    exact ev_bin (x := .tup [.str "sure"]) (y := prE p) (by and_intros) (ev_ix (ev_var hi) eC_eq (ix_lst0 (f := prE) (xs := p :: S) (by simp))) (add_tup (by simp))
theorem som_eq (h : Go w G) : F_sure_or_mixed [gm G] st = .ok (dueD (sure G)) st := by
  refine ev_call (s := M_sure_or_mixed) ?_
  unfold M_sure_or_mixed
  exact ev_seq (ev_drop (ev_fn (by and_intros) (cg_ok h))) (ev_seq (ev_set (ev_fn (by and_intros) (sure_places_eq h))) (ev_ret (due_ev put_eq)))
end
/-! ### judging -/
def inS (S : List (Nat × Nat)) (y z : D) : Bool := y.isInt && z.isInt && S.any fun p => D.eqv (prE p) (.tup [y, z])
def jd (S : List (Nat × Nat)) : D → Bool
  | .tup [.str s] => decide (s = "mixed") && decide ((S.length : Int) = 0)
  | .tup [.str s, y, z] => decide (s = "sure") && inS S y z
  | _ => false
end Lw76


set_option Elab.async false
set_option linter.all false
set_option maxRecDepth 100000
set_option maxHeartbeats 2000000
namespace Lw76
open PySem PySem.Spec L2 Sm
local macro_rules | `(tactic| and_intros) => `(tactic| first
  | (show _ = _; with_reducible assumption)
  | with_reducible exact eC_eq
  | with_reducible exact lNil_eq
  | with_reducible exact ev_pNo
  | with_reducible exact put_eq
  | (with_reducible refine put_no ?_ (by rfl)) <;> and_intros
  | (with_reducible refine clr_no ?_ (by rfl)) <;> and_intros
  | (with_reducible apply ev_var) <;> try and_intros
  | (with_reducible apply ev_varB) <;> try and_intros
  | (with_reducible apply ev_cons) <;> try and_intros
  | (with_reducible apply ev_tV) <;> try and_intros
  | (with_reducible apply ev_bin) <;> try and_intros
  | (with_reducible apply ev_ix) <;> try and_intros
  | (with_reducible apply ev_fn) <;> try and_intros
  | (with_reducible apply ev_g1) <;> try and_intros
  | (with_reducible apply ev_g2) <;> try and_intros
  | (with_reducible apply ev_set) <;> try and_intros
  | (with_reducible apply ev_ret) <;> try and_intros
  | (with_reducible apply ev_own) <;> try and_intros
  | (with_reducible apply ev_drop) <;> try and_intros
  | (with_reducible apply ev_tNot) <;> try and_intros
  | (with_reducible apply ev_tAnd) <;> try and_intros
  | (with_reducible apply ev_tOr) <;> try and_intros
  | (with_reducible apply ev_and) <;> try and_intros
  | (with_reducible apply ev_or) <;> try and_intros
  | (with_reducible apply ev_not) <;> try and_intros
  | (with_reducible apply ev_neg) <;> try and_intros
  | (with_reducible apply ev_if) <;> try and_intros
  | (with_reducible apply ev_chain) <;> try and_intros
  | (with_reducible apply ev_tup) <;> try and_intros
  | (with_reducible apply ev_lst) <;> try and_intros
  | (with_reducible apply ev_isa) <;> try and_intros
  | (with_reducible apply ev_lcM) <;> try and_intros
  | (with_reducible apply ev_lc) <;> try and_intros
  | (with_reducible apply ev_iSeq) <;> try and_intros
  | (with_reducible apply ev_iRng) <;> try and_intros
  | (with_reducible apply ev_iEnum) <;> try and_intros
  | (with_reducible apply ev_iZip) <;> try and_intros
  | (with_reducible apply ev_sl) <;> try and_intros
  | (with_reducible apply ev_pAt) <;> try and_intros
  | (with_reducible apply ev_rev) <;> try and_intros
  | (with_reducible apply ev_dct1) <;> try and_intros
  | (with_reducible apply ev_lenSet) <;> try and_intros
  | (with_reducible apply ev_srtSet) <;> try and_intros
  | (with_reducible apply ev_rgL1) <;> try and_intros
  | (with_reducible apply ev_seqNever) <;> try and_intros
  | (with_reducible apply ev_never) <;> try and_intros
  | (with_reducible apply ev_seqIfSet) <;> try and_intros
  | (with_reducible apply ev_ifRet) <;> try and_intros
  | (with_reducible apply ev_ifElse) <;> try and_intros
  | (with_reducible apply ev_seq) <;> try and_intros
  | (with_reducible apply ev_frz) <;> try and_intros
  | (with_reducible apply ev_frzNo) <;> try and_intros
  | (with_reducible apply ev_par) <;> try and_intros
  | (with_reducible apply ev_par2) <;> try and_intros
  | (with_reducible apply ev_par3) <;> try and_intros
  | (with_reducible apply ev_asg) <;> try and_intros
  | (with_reducible apply ev_app) <;> try and_intros
  | (with_reducible apply ev_ext) <;> try and_intros
  | with_reducible exact addA_int
  | with_reducible exact subD_int
  | with_reducible exact eqD_int
  | with_reducible exact neD_int
  | with_reducible exact ltD_int
  | with_reducible exact leD_int
  | with_reducible exact gtD_int
  | with_reducible exact geD_int
  | with_reducible exact eqD_str
  | with_reducible exact neD_str
  | with_reducible exact lenD_tup'
  | with_reducible exact lenD_lst'
  | with_reducible exact lenD_tup
  | with_reducible exact lenD_lst
  | with_reducible exact tupD_lst
  | with_reducible exact tupD_tup
  | with_reducible exact listD_lst
  | with_reducible exact listD_tup
  | with_reducible exact intD_int
  | with_reducible exact intD_bl
  | with_reducible exact absD_int
  | with_reducible exact allD_p _ _
  | with_reducible exact anyD_p _ _
  | with_reducible exact revD_tup'
  | with_reducible exact revD_lst'
  | with_reducible exact slA_tup'
  | with_reducible exact slA_lst'
  | with_reducible exact sumD_f
  | with_reducible exact inD_ints
  | with_reducible exact inD_intsL
  | with_reducible exact ninD_ints
  | with_reducible exact ninD_intsL
  | with_reducible exact repI
  | (with_reducible apply modD_int) <;> omega
  | (with_reducible apply mulS_l) <;> omega
  | (with_reducible apply mulS_r) <;> omega
  | (with_reducible apply add_tup) <;> try and_intros
  | (with_reducible apply add_lst) <;> try and_intros
  | (with_reducible apply ix_tup) <;> try and_intros
  | (with_reducible apply ix_lst) <;> try and_intros
  | (with_reducible apply ix_tup0) <;> try and_intros
  | (with_reducible apply ix_lst0) <;> try and_intros
  | (with_reducible apply ix_tupL) <;> try and_intros
  | (with_reducible apply ix_lstL) <;> try and_intros
  | (with_reducible apply ev_isOp) <;> try and_intros
  | (with_reducible apply ev_isntOp) <;> try and_intros
  | (with_reducible apply eqD_gen) <;> try and_intros
  | (with_reducible apply neD_gen) <;> try and_intros
  | (show _ ≠ _; first | omega | (simp only [decide_eq_false_iff_not, decide_eq_true_eq] at *; omega) | (simp_all; done) | (simp_all; omega) | skip)
  | (refine fun x hx => ⟨_, rfl, ?_, fun hp => ?_⟩) <;> try and_intros
  | (refine fun x hx => ⟨_, rfl, ?_⟩) <;> try and_intros
  | (with_reducible refine fun (_ : _ = _) => ?_) <;> try and_intros
  | rfl
  | omega
  | (simp only [decide_eq_false_iff_not, decide_eq_true_eq] at *; omega)
  | (simp; done)
  | (simp; omega)
  | (simp_all; done)
  | (simp_all; omega))
section
variable {w : Nat} {G : Gm} {S : List (Nat × Nat)} {st : Store} {e : En}
theorem ints_ev {a b i : Nat} {F : Fx} {xs : List D} {m : Ex} (hF : ∀ x ∈ xs, F [x] st = .ok (.bl x.isInt) st) (hi : m e st = .ok (.tup xs) st) (hl : xs.length ≤ 100) : eFn (g1 fun d => lift (allD d)) (lCons (eLc [a, b] (iSeq m) (gNm b) tYesS (eFn F (lCons (eVar b) lNil))) lNil) e st = .ok (.bl (xs.all D.isInt)) st :=
  ev_fn (ev_cons (ev_lcM xs id (fun x => .bl x.isInt) (by rw [List.map_id]; exact ev_iSeq hi rfl) (fun x hx => ⟨_, rfl, ev_fn (ev_cons (ev_var put_eq) lNil_eq) (hF x hx)⟩) (by omega)) lNil_eq) (ev_g1 (allD_p _ _))
theorem ints2_ev {a b : Nat} {xs : List D} {m : Ex} (hd : ∀ x ∈ xs, dat 60 x = true) (hi : m e st = .ok (.tup xs) st) (hl : xs.length ≤ 100) : eFn (g1 fun d => lift (allD d)) (lCons (eLc [a, b] (iSeq m) (gNm b) tYesS (eAnd (eIsa PyData.isInt (eVar b)) (eNot (eIsa PyData.isBool (eVar b))))) lNil) e st = .ok (.bl (xs.all D.isInt)) st :=
  ev_fn (ev_cons (ev_lcM xs id (fun x => .bl x.isInt) (by rw [List.map_id]; exact ev_iSeq hi rfl) (fun x hx => ⟨_, rfl, ev_to (ev_and (ev_isa (ev_var put_eq) (hd x hx) rfl) fun _ => ev_not (ev_isa (ev_var put_eq) (hd x hx) rfl)) (by show D.bl (x.py.isInt && !x.py.isBool) = _; rw [(isa_T (hd x hx)).1])⟩) (by omega)) lNil_eq) (ev_g1 (allD_p _ _))
theorem rest_ev {i : Nat} {x : D} {xs : List D} (hi : e i = some (false, .tup (x :: xs))) : eSl slA (eVar i) (pAt (eC (.int 1))) pNo e st = .ok (.tup xs) st := by
  refine ev_sl (x := .tup (x :: xs)) (ev_var hi) (ev_pAt eC_eq) ev_pNo ?_
  show some (D.tup (cut (x :: xs) (some 1) none)) = _
  rw [cut1]
  rfl
theorem hd_ev {i : Nat} {x : D} {xs : List D} (hi : e i = some (false, .tup (x :: xs))) : eBin ixD (eVar i) (eC (.int 0)) e st = .ok x st := ev_ix (x := .tup (x :: xs)) (ev_var hi) eC_eq (by have := ix_tup0 (f := id) (xs := x :: xs) (st := st) (by simp); simpa using this)
theorem ln_ev {i : Nat} {xs : List D} (hi : e i = some (false, .tup xs)) : eFn (g1 fun d => lift (lenD d)) (lCons (eVar i) lNil) e st = .ok (.int xs.length) st := ev_fn (ev_cons (ev_var hi) lNil_eq) (ev_g1 lenD_tup)
theorem lnS_ev {i : Nat} (hi : e i = some (false, .lst (S.map prE))) : eFn (g1 fun d => lift (lenD d)) (lCons (eVar i) lNil) e st = .ok (.int S.length) st := ev_fn (ev_cons (ev_var hi) lNil_eq) (ev_g1 lenD_lst')
theorem inS_ev {i : Nat} {a b : Int} {m : Ex} (hm : m e st = .ok (.tup [.int a, .int b]) st) (hi : e i = some (false, .lst (S.map prE))) : eBin (pur inD) m (eVar i) e st = .ok (.bl (inS S (.int a) (.int b))) st :=
  ev_bin hm (ev_var hi) (inD_lst (f := prE) (by simp) (fun _ _ => by simp))
/-- the program's judge -/
theorem ism_eq (h : Go w G) {d : D} (hd : dat 60 d = true) : F_is_sure_or_mixed [gm G, d] st = .ok (.bl (jd (sure G) d)) st := by
  obtain ⟨E, hE⟩ : ∃ X : En, X = env0 [gm G, d] := ⟨_, rfl⟩
  have E0 : E 0 = some (false, gm G) := by rw [hE]; rfl
  have E1 : E 1 = some (false, d) := by rw [hE]; rfl
  refine ev_call (s := M_is_sure_or_mixed) ?_
  unfold M_is_sure_or_mixed
  rw [← hE]
  refine ev_seq (ev_drop (ev_fn (by and_intros) (cg_ok h))) ?_
  have tt : (tNot' (tV (eFn F_is_tuple (lCons (eVar 1) (lCons (eC (.int 1)) (lCons (eC (.int 3)) lNil)))))) E st = .ok (!tupN 1 3 d) st := ev_tNot (ev_tV (ev_fn (by and_intros) (r_tuple hd)))
  by_cases q : tupN 1 3 d = true
  · obtain ⟨xs, rfl, l1, l3⟩ : ∃ xs, d = .tup xs ∧ 1 ≤ xs.length ∧ xs.length ≤ 3 := by
      cases d with
      | tup xs =>
        simp only [tupN, Bool.and_eq_true, decide_eq_true_eq] at q
        exact ⟨xs, rfl, by omega, by omega⟩
      | _ => exact absurd q (by simp [tupN])
    cases xs with
    | nil => simp at l1
    | cons x xs =>
      have hd' : ∀ y ∈ x :: xs, dat 60 y = true := by
        intro y hy
        have : (x :: xs).all (dat 59) = true := by simpa using hd
        exact dat_le (List.all_eq_true.mp this y hy) (by omega)
      have dx := hd' x (by simp)
      have isS : (tNot' (tV (eIsa PyData.isStr (eBin ixD (eVar 1) (eC (.int 0)))))) E st = .ok (!x.isStr) st := ev_tNot (ev_tV (ev_isa (hd_ev E1) dx (isa_T dx).2.2.1))
      have t1 := (tOr_no (u := tNot' (tV (eIsa PyData.isStr (eBin ixD (eVar 1) (eC (.int 0)))))) (tt.trans (by rw [q]; rfl))).trans isS
      cases qs : x.isStr with
      | false =>
        rw [qs] at t1
        refine (sSeq_rt ?_ : _ = Res.ok (Fl.rt (.bl false)) st).trans ?_
        · rw [sIf_eq t1]; exact ev_ret eC_eq
        · have : jd (sure G) (.tup (x :: xs)) = false := by
            cases x <;> first | (cases qs; done) | (unfold jd; rfl)
          rw [this]
      | true =>
        rw [qs] at t1
        obtain ⟨s, rfl⟩ : ∃ s, x = .str s := by
          cases x <;> first | exact ⟨_, rfl⟩ | cases qs
        refine ev_ifNo t1 rfl (ev_seq (ev_set (ev_fn (by and_intros) (sure_places_eq h))) ?_)
        obtain ⟨E', hE'⟩ : ∃ X : En, X = E.put 2 false (.lst ((sure G).map prE)) := ⟨_, rfl⟩
        have F1 : E' 1 = some (false, .tup (.str s :: xs)) := by rw [hE']; exact put_no E1
        have F2 : E' 2 = some (false, .lst ((sure G).map prE)) := by rw [hE']; exact put_eq
        rw [← hE']
        by_cases qm : s = "mixed"
        · refine (sSeq_rt ?_ : _ = Res.ok (Fl.rt (.bl (decide (((.str s :: xs).length : Int) = 1) && decide (((sure G).length : Int) = 0)))) st).trans ?_
          · rw [sIf_eq (c := true) (st1 := st) (ev_tV (ev_bin (hd_ev F1) eC_eq (by rw [eqD_str]; simp [qm])))]
            exact ev_ret (ev_and (ev_bin (ln_ev F1) eC_eq eqD_int) fun _ => ev_bin (lnS_ev F2) eC_eq eqD_int)
          · subst qm
            cases xs with
            | nil => simp [jd]
            | cons y ys =>
              have : jd (sure G) (.tup (.str "mixed" :: y :: ys)) = false := by
                cases ys with
                | nil => rfl
                | cons z zs =>
                  cases zs with
                  | nil => show (decide (("mixed" : Str) = "sure") && inS (sure G) y z) = false; rw [show decide (("mixed" : Str) = "sure") = false from by decide +kernel]; rfl
                  | cons _ _ => rfl
              rw [this]
              have : decide ((((D.str "mixed") :: y :: ys).length : Int) = 1) = false := by simp; omega
              rw [this]; rfl
        · refine ev_ifNo (ev_tV (ev_bin (hd_ev F1) eC_eq (by rw [eqD_str]; simp [qm]))) rfl ?_
          have c2 : (tOr' (tV (eBin (pur neD) (eBin ixD (eVar 1) (eC (.int 0))) (eC (.str "sure")))) (tV (eBin (pur neD) (eFn (g1 fun d => lift (lenD d)) (lCons (eVar 1) lNil)) (eC (.int 3))))) E' st = .ok (!decide (s = "sure") || !decide (((.str s :: xs).length : Int) = 3)) st := ev_tOr (ev_tV (ev_bin (hd_ev F1) eC_eq neD_str)) fun _ => ev_tV (ev_bin (ln_ev F1) eC_eq neD_int)
          by_cases q3 : s = "sure" ∧ xs.length = 2
          · obtain ⟨q4, q5⟩ := q3
            refine ev_ifNo (st1 := st) (c2.trans (by simp [q4, q5])) rfl ?_
            match xs, q5 with
            | [y, z], _ =>
              have al := ints_ev (st := st) (e := E') (a := 3) (b := 4) (i := 1) (F := F_is_integer) (xs := [y, z]) (m := eSl slA (eVar 1) (pAt (eC (.int 1))) pNo) (fun x hx => r_int (hd' x (List.mem_cons_of_mem _ hx))) (rest_ev F1) (by simp)
              have jj : jd (sure G) (.tup [.str s, y, z]) = inS (sure G) y z := by simp [jd, q4]
              rw [jj]
              cases ya : y.isInt with
              | false =>
                refine ev_ret ((eAnd_f (st1 := st) (al.trans (by simp [ya]))).trans ?_)
                simp [inS, ya]
              | true =>
                cases za : z.isInt with
                | false =>
                  refine ev_ret ((eAnd_f (st1 := st) (al.trans (by simp [ya, za]))).trans ?_)
                  simp [inS, za]
                | true =>
                  obtain ⟨a, rfl⟩ : ∃ a, y = .int a := by
                    cases y <;> first | exact ⟨_, rfl⟩ | cases ya
                  obtain ⟨b, rfl⟩ : ∃ a, z = .int a := by
                    cases z <;> first | exact ⟨_, rfl⟩ | cases za
                  exact ev_ret ((eAnd_t (st1 := st) (al.trans (by simp [D.isInt]))).trans (inS_ev (rest_ev F1) F2))
          · refine (sSeq_rt ?_ : _ = Res.ok (Fl.rt (.bl false)) st).trans ?_
            · rw [sIf_eq (c := true) (st1 := st) (c2.trans (by
                congr 1
                simp only [Bool.or_eq_true, Bool.not_eq_true', decide_eq_false_iff_not, List.length_cons]
                by_cases z : s = "sure"
                · right; intro z2; exact q3 ⟨z, by omega⟩
                · left; exact z))]
              exact ev_ret eC_eq
            · have : jd (sure G) (.tup (.str s :: xs)) = false := by
                match xs with
                | [] => simp [jd, qm]
                | [_] => rfl
                | [y, z] =>
                  have : s ≠ "sure" := fun z => q3 ⟨z, rfl⟩
                  simp [jd, this]
                | _ :: _ :: _ :: _ => rfl
              rw [this]
  · have q' : tupN 1 3 d = false := by simpa using q
    refine (sSeq_rt ?_ : _ = Res.ok (Fl.rt (.bl false)) st).trans ?_
    · rw [sIf_eq (tOr_yes (tt.trans (by rw [q']; rfl)))]; exact ev_ret eC_eq
    · have : jd (sure G) d = false := by
        cases d with
        | tup xs =>
          match xs with
          | [] => rfl
          | [_] => simp [tupN] at q'
          | [_, _] => simp [tupN] at q'
          | [_, _, _] => simp [tupN] at q'
          | _ :: _ :: _ :: _ :: _ => simp only [jd]
        | _ => rfl
      rw [this]
end
end Lw76


set_option Elab.async false
set_option linter.all false
set_option maxRecDepth 100000
set_option maxHeartbeats 2000000
namespace Lw76
open PySem PySem.Spec L2 Sm
local macro_rules | `(tactic| and_intros) => `(tactic| first
  | (show _ = _; with_reducible assumption)
  | with_reducible exact eC_eq
  | with_reducible exact lNil_eq
  | with_reducible exact ev_pNo
  | with_reducible exact put_eq
  | (with_reducible refine put_no ?_ (by rfl)) <;> and_intros
  | (with_reducible refine clr_no ?_ (by rfl)) <;> and_intros
  | (with_reducible apply ev_var) <;> try and_intros
  | (with_reducible apply ev_varB) <;> try and_intros
  | (with_reducible apply ev_cons) <;> try and_intros
  | (with_reducible apply ev_tV) <;> try and_intros
  | (with_reducible apply ev_bin) <;> try and_intros
  | (with_reducible apply ev_ix) <;> try and_intros
  | (with_reducible apply ev_fn) <;> try and_intros
  | (with_reducible apply ev_g1) <;> try and_intros
  | (with_reducible apply ev_g2) <;> try and_intros
  | (with_reducible apply ev_set) <;> try and_intros
  | (with_reducible apply ev_ret) <;> try and_intros
  | (with_reducible apply ev_own) <;> try and_intros
  | (with_reducible apply ev_drop) <;> try and_intros
  | (with_reducible apply ev_tNot) <;> try and_intros
  | (with_reducible apply ev_tAnd) <;> try and_intros
  | (with_reducible apply ev_tOr) <;> try and_intros
  | (with_reducible apply ev_and) <;> try and_intros
  | (with_reducible apply ev_or) <;> try and_intros
  | (with_reducible apply ev_not) <;> try and_intros
  | (with_reducible apply ev_neg) <;> try and_intros
  | (with_reducible apply ev_if) <;> try and_intros
  | (with_reducible apply ev_chain) <;> try and_intros
  | (with_reducible apply ev_tup) <;> try and_intros
  | (with_reducible apply ev_lst) <;> try and_intros
  | (with_reducible apply ev_isa) <;> try and_intros
  | (with_reducible apply ev_lcM) <;> try and_intros
  | (with_reducible apply ev_lc) <;> try and_intros
  | (with_reducible apply ev_iSeq) <;> try and_intros
  | (with_reducible apply ev_iRng) <;> try and_intros
  | (with_reducible apply ev_iEnum) <;> try and_intros
  | (with_reducible apply ev_iZip) <;> try and_intros
  | (with_reducible apply ev_sl) <;> try and_intros
  | (with_reducible apply ev_pAt) <;> try and_intros
  | (with_reducible apply ev_rev) <;> try and_intros
  | (with_reducible apply ev_dct1) <;> try and_intros
  | (with_reducible apply ev_lenSet) <;> try and_intros
  | (with_reducible apply ev_srtSet) <;> try and_intros
  | (with_reducible apply ev_rgL1) <;> try and_intros
  | (with_reducible apply ev_seqNever) <;> try and_intros
  | (with_reducible apply ev_never) <;> try and_intros
  | (with_reducible apply ev_seqIfSet) <;> try and_intros
  | (with_reducible apply ev_ifRet) <;> try and_intros
  | (with_reducible apply ev_ifElse) <;> try and_intros
  | (with_reducible apply ev_seq) <;> try and_intros
  | (with_reducible apply ev_frz) <;> try and_intros
  | (with_reducible apply ev_frzNo) <;> try and_intros
  | (with_reducible apply ev_par) <;> try and_intros
  | (with_reducible apply ev_par2) <;> try and_intros
  | (with_reducible apply ev_par3) <;> try and_intros
  | (with_reducible apply ev_asg) <;> try and_intros
  | (with_reducible apply ev_app) <;> try and_intros
  | (with_reducible apply ev_ext) <;> try and_intros
  | with_reducible exact addA_int
  | with_reducible exact subD_int
  | with_reducible exact eqD_int
  | with_reducible exact neD_int
  | with_reducible exact ltD_int
  | with_reducible exact leD_int
  | with_reducible exact gtD_int
  | with_reducible exact geD_int
  | with_reducible exact eqD_str
  | with_reducible exact neD_str
  | with_reducible exact lenD_tup'
  | with_reducible exact lenD_lst'
  | with_reducible exact lenD_tup
  | with_reducible exact lenD_lst
  | with_reducible exact tupD_lst
  | with_reducible exact tupD_tup
  | with_reducible exact listD_lst
  | with_reducible exact listD_tup
  | with_reducible exact intD_int
  | with_reducible exact intD_bl
  | with_reducible exact absD_int
  | with_reducible exact allD_p _ _
  | with_reducible exact anyD_p _ _
  | with_reducible exact revD_tup'
  | with_reducible exact revD_lst'
  | with_reducible exact slA_tup'
  | with_reducible exact slA_lst'
  | with_reducible exact sumD_f
  | with_reducible exact inD_ints
  | with_reducible exact inD_intsL
  | with_reducible exact ninD_ints
  | with_reducible exact ninD_intsL
  | with_reducible exact repI
  | (with_reducible apply modD_int) <;> omega
  | (with_reducible apply mulS_l) <;> omega
  | (with_reducible apply mulS_r) <;> omega
  | (with_reducible apply add_tup) <;> try and_intros
  | (with_reducible apply add_lst) <;> try and_intros
  | (with_reducible apply ix_tup) <;> try and_intros
  | (with_reducible apply ix_lst) <;> try and_intros
  | (with_reducible apply ix_tup0) <;> try and_intros
  | (with_reducible apply ix_lst0) <;> try and_intros
  | (with_reducible apply ix_tupL) <;> try and_intros
  | (with_reducible apply ix_lstL) <;> try and_intros
  | (with_reducible apply ev_isOp) <;> try and_intros
  | (with_reducible apply ev_isntOp) <;> try and_intros
  | (with_reducible apply eqD_gen) <;> try and_intros
  | (with_reducible apply neD_gen) <;> try and_intros
  | (show _ ≠ _; first | omega | (simp only [decide_eq_false_iff_not, decide_eq_true_eq] at *; omega) | (simp_all; done) | (simp_all; omega) | skip)
  | (refine fun x hx => ⟨_, rfl, ?_, fun hp => ?_⟩) <;> try and_intros
  | (refine fun x hx => ⟨_, rfl, ?_⟩) <;> try and_intros
  | (with_reducible refine fun (_ : _ = _) => ?_) <;> try and_intros
  | rfl
  | omega
  | (simp only [decide_eq_false_iff_not, decide_eq_true_eq] at *; omega)
  | (simp; done)
  | (simp; omega)
  | (simp_all; done)
  | (simp_all; omega))
section
variable {w : Nat} {G : Gm} {S : List (Nat × Nat)} {st : Store} {e : En}
theorem rt_false {k : Sx} {t : Tx} (h : t e st = .ok true st) : sSeq (sIf t (sRet (eC (.bl false))) sNil) k e st = .ok (.rt (.bl false)) st := sSeq_rt (by rw [sIf_eq h]; exact ev_ret eC_eq)
/-- the law's judge -/
theorem told_eq {d : D} (hd : dat 60 d = true) : F__law_is_told [.lst (S.map prE), d] st = .ok (.bl (jd S d)) st := by
  obtain ⟨E, hE⟩ : ∃ X : En, X = env0 [.lst (S.map prE), d] := ⟨_, rfl⟩
  have E0 : E 0 = some (false, .lst (S.map prE)) := by rw [hE]; rfl
  have E1 : E 1 = some (false, d) := by rw [hE]; rfl
  refine ev_call (s := M__law_is_told) ?_
  unfold M__law_is_told
  rw [← hE]
  have tt : (tNot' (tV (eIsa PyData.isTuple (eVar 1)))) E st = .ok (!d.isTup) st := ev_tNot (ev_tV (ev_isa (ev_var E1) hd (isa_T hd).2.1))
  cases q : d.isTup with
  | false =>
    rw [q] at tt
    have : jd S d = false := by cases d <;> first | (cases q; done) | rfl
    rw [this]
    exact rt_false (tOr_yes tt)
  | true =>
    rw [q] at tt
    obtain ⟨xs, rfl⟩ : ∃ xs, d = .tup xs := by cases d <;> first | exact ⟨_, rfl⟩ | cases q
    have tl : (tV (eBin (pur ninD) (eFn (g1 fun d => lift (lenD d)) (lCons (eVar 1) lNil)) (eTup (lCons (eC (.int 1)) (lCons (eC (.int 3)) lNil))))) E st = .ok (![(1 : Int), 3].contains (xs.length : Int)) st := ev_tV (ev_bin (y := tN [1, 3]) (ln_ev E1) (by and_intros) ninD_ints)
    by_cases l : xs.length = 1 ∨ xs.length = 3
    · have tl' := tl.trans (show Res.ok (![(1 : Int), 3].contains (xs.length : Int)) st = .ok false st by
        congr 1
        rcases l with l | l <;> rw [l] <;> rfl)
      cases xs with
      | nil => simp at l
      | cons x xs =>
        have hd' : ∀ y ∈ x :: xs, dat 60 y = true := by
          intro y hy
          have : (x :: xs).all (dat 59) = true := by simpa using hd
          exact dat_le (List.all_eq_true.mp this y hy) (by omega)
        have dx := hd' x (by simp)
        have isS : (tNot' (tV (eIsa PyData.isStr (eBin ixD (eVar 1) (eC (.int 0)))))) E st = .ok (!x.isStr) st := ev_tNot (ev_tV (ev_isa (hd_ev E1) dx (isa_T dx).2.2.1))
        have t1 := (tOr_no (u := _) tt).trans ((tOr_no (u := _) tl').trans isS)
        cases qs : x.isStr with
        | false =>
          rw [qs] at t1
          have : jd S (.tup (x :: xs)) = false := by
            cases x <;> first | (cases qs; done) | (unfold jd; rfl)
          rw [this]
          exact rt_false t1
        | true =>
          rw [qs] at t1
          obtain ⟨s, rfl⟩ : ∃ s, x = .str s := by
            cases x <;> first | exact ⟨_, rfl⟩ | cases qs
          refine ev_ifNo t1 rfl ?_
          rcases l with l | l
          · have : xs = [] := List.eq_nil_of_length_eq_zero (by simpa using l)
            subst this
            have j : jd S (.tup [.str s]) = (decide (s = "mixed") && decide ((S.length : Int) = 0)) := by simp only [jd]
            rw [j]
            refine sSeq_rt ?_
            rw [sIf_eq (c := true) (st1 := st) (ev_tV (ev_bin (ln_ev E1) eC_eq (by rw [eqD_int]; rfl)))]
            exact ev_ret (ev_and (ev_bin (hd_ev E1) eC_eq eqD_str) fun _ => ev_bin (lnS_ev E0) eC_eq eqD_int)
          · match xs, l with
            | [y, z], _ =>
              refine ev_ifNo (b := false) (st1 := st) (ev_tV (ev_bin (ln_ev E1) eC_eq (by rw [eqD_int]; rfl))) rfl ?_
              have al := ints2_ev (st := st) (e := E) (a := 2) (b := 3) (xs := [y, z]) (m := eSl slA (eVar 1) (pAt (eC (.int 1))) pNo) (fun x hx => hd' x (List.mem_cons_of_mem _ hx)) (rest_ev E1) (by simp)
              have j : jd S (.tup [.str s, y, z]) = (decide (s = "sure") && inS S y z) := by simp only [jd]
              have c1 : (tV (eBin (pur neD) (eBin ixD (eVar 1) (eC (.int 0))) (eC (.str "sure")))) E st = .ok (!decide (s = "sure")) st := ev_tV (ev_bin (hd_ev E1) eC_eq neD_str)
              rw [j]
              by_cases qm : s = "sure"
              · have e1 : decide (s = "sure") = true := by simpa using qm
                rw [e1] at c1 ⊢
                rw [Bool.true_and]
                have al' := ev_tNot (ev_tV al)
                cases ya : y.isInt with
                | false =>
                  have : inS S y z = false := by simp [inS, ya]
                  rw [this]
                  exact rt_false ((tOr_no c1).trans (al'.trans (by simp [ya])))
                | true =>
                  cases za : z.isInt with
                  | false =>
                    have : inS S y z = false := by simp [inS, za]
                    rw [this]
                    exact rt_false ((tOr_no c1).trans (al'.trans (by simp [za])))
                  | true =>
                    obtain ⟨a, rfl⟩ : ∃ a, y = .int a := by
                      cases y <;> first | exact ⟨_, rfl⟩ | cases ya
                    obtain ⟨b, rfl⟩ : ∃ a, z = .int a := by
                      cases z <;> first | exact ⟨_, rfl⟩ | cases za
                    exact ev_ifNo (b := false) (st1 := st) ((tOr_no c1).trans (al'.trans (by simp [D.isInt]))) rfl (ev_ret (inS_ev (rest_ev E1) E0))
              · have e1 : decide (s = "sure") = false := by simpa using qm
                rw [e1] at c1 ⊢
                exact rt_false (tOr_yes c1)
    · have tl' := tl.trans (show Res.ok (![(1 : Int), 3].contains (xs.length : Int)) st = .ok true st by
        congr 1
        simp only [Bool.not_eq_true', List.contains_eq_mem, List.mem_cons, List.not_mem_nil, or_false, decide_eq_false_iff_not]
        omega)
      have : jd S (.tup xs) = false := by
        match xs, l with
        | [], _ => rfl
        | [_], l => simp at l
        | [a, b], _ => cases a <;> rfl
        | [_, _, _], l => simp at l
        | a :: _ :: _ :: _ :: _, _ => cases a <;> rfl
      rw [this]
      exact rt_false ((tOr_no tt).trans (tOr_yes tl'))
/-! ### what is no game -/
theorem cg_a {d : D} (hd : dat 60 d = true) (h : tupN 1 3 d = false) : F_check_game [d] st = .exc "NoGame" [] st := by
  refine xc_call (s := M_check_game) (xc_seq (xc_if (tOr_yes ((ev_tNot (ev_tV (ev_fn (by and_intros) (r_tuple hd)))).trans ?_))))
  rw [h]; rfl
theorem tup_dat {x : D} {xs : List D} (hd : dat 60 (.tup (x :: xs)) = true) : ∀ y ∈ x :: xs, dat 59 y = true := by
  have : (x :: xs).all (dat 59) = true := by simpa using hd
  exact List.all_eq_true.mp this
theorem cg_b {x : D} {xs : List D} (hd : dat 60 (.tup (x :: xs)) = true) (h : tupN 1 3 x = false) : F_check_game [.tup (x :: xs)] st = .exc "NoGame" [] st := by
  have dx : dat 60 x = true := dat_le (tup_dat hd x (by simp)) (by omega)
  have tt : (tNot' (tV (eFn F_is_tuple (lCons (eVar 0) (lCons (eC (.int 1)) (lCons (eC (.int 3)) lNil)))))) (env0 [.tup (x :: xs)]) st = .ok (!tupN 1 3 (.tup (x :: xs))) st := ev_tNot (ev_tV (ev_fn (by and_intros) (r_tuple hd)))
  have t2 : (tNot' (tV (eFn F_is_tuple (lCons (eBin ixD (eVar 0) (eC (.int 0))) (lCons (eC (.int 1)) (lCons (eC (.int 3)) lNil)))))) (env0 [.tup (x :: xs)]) st = .ok (!tupN 1 3 x) st := ev_tNot (ev_tV (ev_fn (ev_cons (hd_ev rfl) (by and_intros)) (r_tuple dx)))
  exact xc_call (s := M_check_game) (xc_seq (xc_if (or_yes tt t2 (.inr (by rw [h]; rfl)))))
theorem cg_c {pre : Gm} {b : D} {post : List D} {x : D} {xs ys : List D} (he : pre.map tN ++ b :: post = x :: xs) (hx : x = .tup ys) (l : (x :: xs).length ≤ 3) (hy : 1 ≤ ys.length ∧ ys.length ≤ 3) (hp : ∀ r ∈ pre, r.length = ys.length ∧ ∀ x ∈ r, -20 ≤ x ∧ x ≤ 20) (hd : dat 60 (.tup (x :: xs)) = true)
    (hb : ∀ e : En, e 1 = some (false, .int (ys.length : Nat)) → e 2 = some (false, b) → rowT e st = .ok true st) : F_check_game [.tup (x :: xs)] st = .exc "NoGame" [] st := by
  have dx : dat 60 x = true := dat_le (tup_dat hd x (by simp)) (by omega)
  have a1 : tupN 1 3 (.tup (x :: xs)) = true := by
    show (decide ((1 : Int) ≤ (x :: xs).length) && decide (((x :: xs).length : Int) ≤ 3)) = true
    rw [List.length_cons] at l ⊢
    simp only [Bool.and_eq_true, decide_eq_true_eq]
    omega
  have a2 : tupN 1 3 x = true := by
    rw [hx]
    show (decide ((1 : Int) ≤ ys.length) && decide ((ys.length : Int) ≤ 3)) = true
    simp only [Bool.and_eq_true, decide_eq_true_eq]
    omega
  refine xc_call (s := M_check_game) ?_
  unfold M_check_game
  refine ev_ifNo (b := false) (st1 := st) ((tOr_no (st1 := st) ((ev_tNot (ev_tV (ev_fn (by and_intros) (r_tuple hd)))).trans (by rw [a1]; rfl))).trans ((ev_tNot (ev_tV (ev_fn (ev_cons (hd_ev rfl) (by and_intros)) (r_tuple dx)))).trans (by rw [a2]; rfl))) rfl ?_
  refine ev_seq (ev_set (d := .int (ys.length : Nat)) (ev_fn (ev_cons (hd_ev rfl) lNil_eq) (ev_g1 (by rw [hx, lenD_tup])))) ?_
  exact for_exc (b := sIf rowT (sRaise "NoGame") sNil) (fun e : En => e 1 = some (false, .int (ys.length : Nat))) ((ev_iSeq (x := .tup (x :: xs)) (xs := x :: xs) (ev_var (put_no rfl)) rfl).trans (by rw [he])) put_eq (fun d hd e he => by
    obtain ⟨r, hr, rfl⟩ := List.mem_map.mp hd
    obtain ⟨h1, h2⟩ := hp r hr
    exact ⟨_, _, rfl, sIf_no (row_ok h1 hy.2 h2 (put_no he) put_eq), put_no he⟩) fun e he => ⟨_, rfl, xc_if (hb _ (put_no he) put_eq)⟩
/-- what is no game -/
structure Bad (d : D) : Prop where
  dt : dat 60 d = true
  no : ∀ st : Store, F_check_game [d] st = .exc "NoGame" [] st
def L5 : List Str := ["sure_or_mixed", "floor_of", "ceiling_of", "worse_rows", "turned_game"]
theorem word_eq {y : Str} {d : D} (hy : y ∈ L5) (h : Bad d) : F__law_word [.glo y, d] st = .ok (.str "game") st := by
  have x : (eCallV 0 (fxTab tl1) (lCons (eVar 1) lNil)) (env0 [.glo y, d]) st = .exc "NoGame" [] st := by
    simp only [L5, List.mem_cons, List.not_mem_nil, or_false] at hy
    rcases hy with rfl | rfl | rfl | rfl | rfl
    · exact xc_callV rfl rfl (by and_intros) (xc_call (s := M_sure_or_mixed) (xc_seq (xc_drop (xc_fn (by and_intros) (h.no st)))))
    · exact xc_callV rfl rfl (by and_intros) (xc_call (s := M_floor_of) (xc_seq (xc_drop (xc_fn (by and_intros) (h.no st)))))
    · exact xc_callV rfl rfl (by and_intros) (xc_call (s := M_ceiling_of) (xc_seq (xc_drop (xc_fn (by and_intros) (h.no st)))))
    · exact xc_callV rfl rfl (by and_intros) (xc_call (s := M_worse_rows) (xc_seq (xc_drop (xc_fn (by and_intros) (h.no st)))))
    · exact xc_callV rfl rfl (by and_intros) (xc_call (s := M_turned_game) (xc_seq (xc_drop (xc_fn (by and_intros) (h.no st)))))
  refine ev_call (s := M__law_word) ?_
  unfold M__law_word
  refine sSeq_rt (ev_excRt x (by simp) fun a => hTab_run rfl (ev_ret ?_))
  rw [eIf_eq (c := true) (st1 := st) (ev_to (ev_tAnd (ev_tV (ev_isE put_eq)) fun _ => ev_tV (ev_isE put_eq)) rfl)]
  rfl
theorem judged_word_eq {d : D} (h : Bad d) : F__law_judged_word [d] st = .ok (.str "game") st := by
  have x : (eFn F_is_sure_or_mixed (lCons (eVar 0) (lCons (eTup (lCons (eC (.str "mixed")) lNil)) lNil))) (env0 [d]) st = .exc "NoGame" [] st :=
    xc_fn (by and_intros) (xc_call (s := M_is_sure_or_mixed) (xc_seq (xc_drop (xc_fn (by and_intros) (h.no st)))))
  refine ev_call (s := M__law_judged_word) ?_
  unfold M__law_judged_word
  refine sSeq_rt (ev_excRt x (by simp) fun a => hTab_run rfl (ev_ret ?_))
  rw [eIf_eq (c := true) (st1 := st) (ev_to (ev_tAnd (ev_tV (ev_isE put_eq)) fun _ => ev_tV (ev_isE put_eq)) rfl)]
  rfl
end
end Lw76


set_option Elab.async false
set_option linter.all false
set_option maxRecDepth 100000
set_option maxHeartbeats 2000000
namespace Lw76
open PySem PySem.Spec L2 Sm
local macro_rules | `(tactic| and_intros) => `(tactic| first
  | (show _ = _; with_reducible assumption)
  | with_reducible exact eC_eq
  | with_reducible exact lNil_eq
  | with_reducible exact ev_pNo
  | with_reducible exact put_eq
  | (with_reducible refine put_no ?_ (by rfl)) <;> and_intros
  | (with_reducible refine clr_no ?_ (by rfl)) <;> and_intros
  | (with_reducible apply ev_var) <;> try and_intros
  | (with_reducible apply ev_varB) <;> try and_intros
  | (with_reducible apply ev_cons) <;> try and_intros
  | (with_reducible apply ev_tV) <;> try and_intros
  | (with_reducible apply ev_bin) <;> try and_intros
  | (with_reducible apply ev_ix) <;> try and_intros
  | (with_reducible apply ev_fn) <;> try and_intros
  | (with_reducible apply ev_g1) <;> try and_intros
  | (with_reducible apply ev_g2) <;> try and_intros
  | (with_reducible apply ev_set) <;> try and_intros
  | (with_reducible apply ev_ret) <;> try and_intros
  | (with_reducible apply ev_own) <;> try and_intros
  | (with_reducible apply ev_drop) <;> try and_intros
  | (with_reducible apply ev_tNot) <;> try and_intros
  | (with_reducible apply ev_tAnd) <;> try and_intros
  | (with_reducible apply ev_tOr) <;> try and_intros
  | (with_reducible apply ev_and) <;> try and_intros
  | (with_reducible apply ev_or) <;> try and_intros
  | (with_reducible apply ev_not) <;> try and_intros
  | (with_reducible apply ev_neg) <;> try and_intros
  | (with_reducible apply ev_if) <;> try and_intros
  | (with_reducible apply ev_chain) <;> try and_intros
  | (with_reducible apply ev_tup) <;> try and_intros
  | (with_reducible apply ev_lst) <;> try and_intros
  | (with_reducible apply ev_isa) <;> try and_intros
  | (with_reducible apply ev_lcM) <;> try and_intros
  | (with_reducible apply ev_lc) <;> try and_intros
  | (with_reducible apply ev_iSeq) <;> try and_intros
  | (with_reducible apply ev_iRng) <;> try and_intros
  | (with_reducible apply ev_iEnum) <;> try and_intros
  | (with_reducible apply ev_iZip) <;> try and_intros
  | (with_reducible apply ev_sl) <;> try and_intros
  | (with_reducible apply ev_pAt) <;> try and_intros
  | (with_reducible apply ev_rev) <;> try and_intros
  | (with_reducible apply ev_dct1) <;> try and_intros
  | (with_reducible apply ev_lenSet) <;> try and_intros
  | (with_reducible apply ev_srtSet) <;> try and_intros
  | (with_reducible apply ev_rgL1) <;> try and_intros
  | (with_reducible apply ev_seqNever) <;> try and_intros
  | (with_reducible apply ev_never) <;> try and_intros
  | (with_reducible apply ev_seqIfSet) <;> try and_intros
  | (with_reducible apply ev_ifRet) <;> try and_intros
  | (with_reducible apply ev_ifElse) <;> try and_intros
  | (with_reducible apply ev_seq) <;> try and_intros
  | (with_reducible apply ev_frz) <;> try and_intros
  | (with_reducible apply ev_frzNo) <;> try and_intros
  | (with_reducible apply ev_par) <;> try and_intros
  | (with_reducible apply ev_par2) <;> try and_intros
  | (with_reducible apply ev_par3) <;> try and_intros
  | (with_reducible apply ev_asg) <;> try and_intros
  | (with_reducible apply ev_app) <;> try and_intros
  | (with_reducible apply ev_ext) <;> try and_intros
  | with_reducible exact addA_int
  | with_reducible exact subD_int
  | with_reducible exact eqD_int
  | with_reducible exact neD_int
  | with_reducible exact ltD_int
  | with_reducible exact leD_int
  | with_reducible exact gtD_int
  | with_reducible exact geD_int
  | with_reducible exact eqD_str
  | with_reducible exact neD_str
  | with_reducible exact lenD_tup'
  | with_reducible exact lenD_lst'
  | with_reducible exact lenD_tup
  | with_reducible exact lenD_lst
  | with_reducible exact tupD_lst
  | with_reducible exact tupD_tup
  | with_reducible exact listD_lst
  | with_reducible exact listD_tup
  | with_reducible exact intD_int
  | with_reducible exact intD_bl
  | with_reducible exact absD_int
  | with_reducible exact allD_p _ _
  | with_reducible exact anyD_p _ _
  | with_reducible exact revD_tup'
  | with_reducible exact revD_lst'
  | with_reducible exact slA_tup'
  | with_reducible exact slA_lst'
  | with_reducible exact sumD_f
  | with_reducible exact inD_ints
  | with_reducible exact inD_intsL
  | with_reducible exact ninD_ints
  | with_reducible exact ninD_intsL
  | with_reducible exact repI
  | (with_reducible apply modD_int) <;> omega
  | (with_reducible apply mulS_l) <;> omega
  | (with_reducible apply mulS_r) <;> omega
  | (with_reducible apply add_tup) <;> try and_intros
  | (with_reducible apply add_lst) <;> try and_intros
  | (with_reducible apply ix_tup) <;> try and_intros
  | (with_reducible apply ix_lst) <;> try and_intros
  | (with_reducible apply ix_tup0) <;> try and_intros
  | (with_reducible apply ix_lst0) <;> try and_intros
  | (with_reducible apply ix_tupL) <;> try and_intros
  | (with_reducible apply ix_lstL) <;> try and_intros
  | (with_reducible apply ev_isOp) <;> try and_intros
  | (with_reducible apply ev_isntOp) <;> try and_intros
  | (with_reducible apply eqD_gen) <;> try and_intros
  | (with_reducible apply neD_gen) <;> try and_intros
  | (show _ ≠ _; first | omega | (simp only [decide_eq_false_iff_not, decide_eq_true_eq] at *; omega) | (simp_all; done) | (simp_all; omega) | skip)
  | (refine fun x hx => ⟨_, rfl, ?_, fun hp => ?_⟩) <;> try and_intros
  | (refine fun x hx => ⟨_, rfl, ?_⟩) <;> try and_intros
  | (with_reducible refine fun (_ : _ = _) => ?_) <;> try and_intros
  | rfl
  | omega
  | (simp only [decide_eq_false_iff_not, decide_eq_true_eq] at *; omega)
  | (simp; done)
  | (simp; omega)
  | (simp_all; done)
  | (simp_all; omega))
theorem draw_i {h : List D} {k : Int} (hh : Hok h) (h1 : 1 ≤ k) (h2 : k < 1073741824) : ∃ (x : Nat) (h' : List D), F__law_draw [.obj 0, .int k] [h] = .ok (.int x) [h'] ∧ (x : Int) < k ∧ Hok h' := draw_d (c0 := 97) hh h1 h2
theorem any_i {h xs : List D} (hh : Hok h) (h1 : 1 ≤ xs.length) (h2 : xs.length ≤ 1000000) : ∃ d h', F__law_any [.obj 0, .lst xs] [h] = .ok d [h'] ∧ d ∈ xs ∧ Hok h' := any_dd (c0 := 97) hh h1 h2
theorem deep_i {h : List D} (hh : Hok h) : ∃ d k h', F__law_deep [.obj 0] [h] = .ok d [h'] ∧ 5 ≤ k ∧ k < 30 ∧ Dq k d ∧ Hok h' := deep2_ok (c0 := 97) hh
theorem no_inR {d : D} {lo hi : Int} (h : d.isInt = false) : inR lo hi d = false := by cases d <;> first | rfl | cases h
theorem tup_no {a b : Int} {d : D} (h : d.isTup = false) : tupN a b d = false := by cases d <;> first | rfl | cases h
theorem bad_a {d : D} (hd : dat 60 d = true) (h : tupN 1 3 d = false) : Bad d := ⟨hd, fun st => cg_a hd h⟩
theorem bad_b {x : D} {xs : List D} (hd : dat 60 (.tup (x :: xs)) = true) (h : tupN 1 3 x = false) : Bad (.tup (x :: xs)) := ⟨hd, fun st => cg_b hd h⟩
theorem bad_row {ys : List D} {xs : List D} (hd : dat 60 (.tup (.tup ys :: xs)) = true) (l : xs.length ≤ 2) (hy : 1 ≤ ys.length ∧ ys.length ≤ 3) (h : ys.all (inR (-20) 20) = false) : Bad (.tup (.tup ys :: xs)) :=
  ⟨hd, fun st => cg_c (pre := []) (b := .tup ys) (post := xs) rfl rfl (by simp; omega) hy (by simp) hd fun e e1 e2 => by
    have dy : ∀ y ∈ ys, dat 59 y = true := by
      have := tup_dat hd (.tup ys) (by simp)
      have : ys.all (dat 58) = true := by simpa using this
      intro y hy
      exact dat_le (List.all_eq_true.mp this y hy) (by omega)
    refine (row_t dy (by omega) e1 e2).trans ?_
    rw [h, Bool.not_false, Bool.or_true]⟩
theorem deep_bad {k : Nat} {d : D} (h : Dq k d) (h5 : 5 ≤ k) (h30 : k < 30) : Bad d := by
  have hd : dat 60 d = true := dat_le h.rw.t (by omega)
  cases h with
  | non => omega
  | qm => omega
  | yes => omega
  | lst h => exact bad_a hd rfl
  | dct h => exact bad_a hd rfl
  | tup h =>
    cases h with
    | tup h2 => exact bad_row hd (by simp) (by simp) (by simp [no_inR h2.no_int])
    | non => exact bad_b hd rfl
    | qm => exact bad_b hd rfl
    | yes => exact bad_b hd rfl
    | lst _ => exact bad_b hd rfl
    | dct _ => exact bad_b hd rfl
theorem many (w : Str) {n : Nat} (h : n ≤ 100) : mulA (.lst [.str w]) (.int n) = some (.lst (List.replicate n (.str w))) := by
  have e : mulL (.lst [.str w]) (.int n) = some (.lst (List.replicate n (.str w))) := by
    unfold mulL
    show (if -(2 ^ 63) ≤ (n : Int) ∧ (n : Int) < 2 ^ 63 ∧ [D.str w].length * (n : Int).toNat ≤ line then some (D.lst (List.replicate (n : Int).toNat [D.str w]).flatten) else none) = _
    rw [if_pos ⟨by omega, by omega, by have := toLine (n := n) (by omega); simpa using this⟩]
    simp
  unfold mulA
  rw [e]
  rfl
theorem same {x : D} (s : shp 60 x = true) : eqD x x = some (.bl true) := by
  rw [eqD_gen s s, show D.eqv _ _ = true from eqv_self 60 _ s]
section
variable {w : Nat} {G : Gm}
theorem tdat : dat 60 (gm G) = true := by simp
theorem refused_ok {h : List D} (hh : Hok h) (ho : Go w G) : ∃ h', F__law_are_refused [.obj 0, gm G] [h] = .ok (.bl true) [h'] ∧ Hok h' := by
  have w1 := ho.w1
  have w3 := ho.w3
  have l3 := ho.h3
  obtain ⟨r, Gs, rfl⟩ : ∃ r Gs, G = r :: Gs := by
    cases G with
    | nil => exact absurd rfl ho.ne
    | cons r Gs => exact ⟨r, Gs, rfl⟩
  have hl : r.length = w := ho.len r (by simp)
  have hr := ho.rng r (by simp)
  obtain ⟨x0, r', rfl⟩ : ∃ x r', r = x :: r' := by
    cases r with
    | nil => simp at hl; omega
    | cons x r' => exact ⟨x, r', rfl⟩
  rw [List.length_cons] at l3 hl
  obtain ⟨d1, k1, h1, a1, a2, a3, a4, a5⟩ := deep_i hh
  obtain ⟨odd, h2, b1, b2, b3⟩ := any_i (xs := [.int 21, .int (-21), .non, .bl true, .str "1", .tup [.int 1], d1]) a5 (by simp) (by simp)
  have od : dat 50 odd = true ∧ inR (-20) 20 odd = false := by
    simp only [List.mem_cons, List.not_mem_nil, or_false] at b2
    rcases b2 with rfl | rfl | rfl | rfl | rfl | rfl | rfl
    · exact ⟨rfl, by decide⟩
    · exact ⟨rfl, by decide⟩
    · exact ⟨rfl, rfl⟩
    · exact ⟨rfl, rfl⟩
    · exact ⟨rfl, rfl⟩
    · exact ⟨by simp, rfl⟩
    · exact ⟨dat_le a4.rw.t (by omega), no_inR a4.no_int⟩
  have od2 : dat 58 odd = true := dat_le od.1 (by omega)
  obtain ⟨d2, k2, h3, c1, c2, c3, c4, c5⟩ := deep_i b3
  let s4 : List D := [.tup [], .tup [.tup []], .lst (((x0 :: r') :: Gs).map tN), .tup (((x0 :: r') :: Gs).map tN ++ [tN ((x0 :: r') ++ [0])]), .tup [tN (x0 :: r'), tN (x0 :: r'), tN (x0 :: r'), tN (x0 :: r')], .tup [tN [1, 2, 3, 4]], .tup (lN (x0 :: r') :: Gs.map tN), .non]
  let s5 : List D := s4 ++ [.tup (.tup (odd :: r'.map .int) :: Gs.map tN), .str "?", .dct [], tN (x0 :: r'), d2]
  obtain ⟨bad, h4, e1, e2, e3⟩ := any_i (xs := s5) c5 (by simp [s5, s4]) (by simp [s5, s4])
  have hb : Bad bad := by
    simp only [s5, s4, List.mem_append, List.mem_cons, List.not_mem_nil, or_false] at e2
    rcases e2 with (rfl | rfl | rfl | rfl | rfl | rfl | rfl | rfl) | rfl | rfl | rfl | rfl | rfl
    · exact bad_a rfl rfl
    · exact bad_b rfl rfl
    · exact bad_a (by simp) rfl
    · have dd : dat 60 (.tup (((x0 :: r') :: Gs).map tN ++ [tN ((x0 :: r') ++ [0])])) = true := by simp
      by_cases q : Gs.length = 2
      · refine bad_a dd ?_
        simp [tupN]; omega
      · refine ⟨dd, fun st => cg_c (pre := (x0 :: r') :: Gs) (b := tN ((x0 :: r') ++ [0])) (post := []) (x := tN (x0 :: r')) (ys := (x0 :: r').map .int) rfl rfl (by simp; omega) (by simp; omega) (fun s hs => ⟨?_, ho.rng s hs⟩) dd fun e f1 f2 => row_n (w := ((x0 :: r').map D.int).length) (by simp) ?_ f1 f2⟩
        · rw [ho.len s hs]; simp; omega
        · simp [tupN]; omega
    · exact bad_a (by simp) rfl
    · exact bad_b (by simp) rfl
    · exact bad_b (by simp) rfl
    · exact bad_a rfl rfl
    · refine bad_row ?_ (by simp; omega) (by simp; omega) ?_
      · simp [od2]
      · simp [od.2]
    · exact bad_a rfl rfl
    · exact bad_a rfl rfl
    · exact bad_b (x := .int x0) (xs := r'.map .int) (by simp) rfl
    · exact deep_bad c4 c2 c3
  obtain ⟨E, hE⟩ : ∃ X : En, X = (((env0 [.obj 0, gm ((x0 :: r') :: Gs)]).put 2 false (tN (x0 :: r'))).put 3 false odd).put 4 false (.lst s4) := ⟨_, rfl⟩
  have E0 : E 0 = some (false, .obj 0) := by rw [hE]; and_intros
  have E1 : E 1 = some (false, gm ((x0 :: r') :: Gs)) := by rw [hE]; and_intros
  have E2 : E 2 = some (false, tN (x0 :: r')) := by rw [hE]; and_intros
  have E3 : E 3 = some (false, odd) := by rw [hE]; and_intros
  have E4 : E 4 = some (false, .lst s4) := by rw [hE]; exact put_eq
  have hd1 : ∀ st : Store, ∀ e : En, e 1 = some (false, gm ((x0 :: r') :: Gs)) → eBin ixD (eVar 1) (eC (.int 0)) e st = .ok (tN (x0 :: r')) st := fun st e e1 => hd_ev (x := tN (x0 :: r')) (xs := Gs.map tN) e1
  have tl1 : ∀ st : Store, ∀ e : En, e 1 = some (false, gm ((x0 :: r') :: Gs)) → eSl slA (eVar 1) (pAt (eC (.int 1))) pNo e st = .ok (.tup (Gs.map tN)) st := fun st e e1 => rest_ev (x := tN (x0 :: r')) (xs := Gs.map tN) e1
  have tl2 : ∀ st : Store, ∀ e : En, e 2 = some (false, tN (x0 :: r')) → eSl slA (eVar 2) (pAt (eC (.int 1))) pNo e st = .ok (.tup (r'.map .int)) st := fun st e e1 => rest_ev (x := .int x0) (xs := r'.map .int) e1
  refine ⟨h4, ev_call (s := M__law_are_refused) ?_, e3⟩
  unfold M__law_are_refused
  refine ev_seq (ev_set (hd1 _ _ rfl)) ?_
  refine ev_seq (ev_set (ev_fn (ev_cons (ev_var rfl) (ev_cons (ev_lst (ev_cons eC_eq (ev_cons (ev_neg eC_eq) (ev_cons eC_eq (ev_cons eC_eq (ev_cons eC_eq (ev_cons (by and_intros) (ev_cons (ev_fn (by and_intros) a1) lNil_eq)))))))) lNil_eq)) b1)) ?_
  obtain ⟨E', hE'⟩ : ∃ X : En, X = ((env0 [.obj 0, gm ((x0 :: r') :: Gs)]).put 2 false (tN (x0 :: r'))).put 3 false odd := ⟨_, rfl⟩
  have D1 : E' 1 = some (false, gm ((x0 :: r') :: Gs)) := by rw [hE']; and_intros
  have D2 : E' 2 = some (false, tN (x0 :: r')) := by rw [hE']; and_intros
  refine ev_seq (st1 := [h2]) (ev_set (d := .lst s4) ?_) ?_
  · rw [← hE']
    refine ev_lst (ev_cons (by and_intros) (ev_cons (by and_intros) (ev_cons (ev_fn (ev_cons (ev_var D1) lNil_eq) (ev_g1 listD_tup)) (ev_cons (ev_bin (x := gm ((x0 :: r') :: Gs)) (y := .tup [tN ((x0 :: r') ++ [0])]) (ev_var D1) (ev_tup (ev_cons (ev_bin (x := tN (x0 :: r')) (y := .tup [.int 0]) (ev_var D2) (by and_intros) ?_) lNil_eq)) (add_tup (by simp; omega))) (ev_cons (ev_bin (x := .tup [tN (x0 :: r')]) (y := .int 4) (by and_intros) eC_eq (by rfl)) (ev_cons (by and_intros) (ev_cons (ev_bin (x := .tup [lN (x0 :: r')]) (y := .tup (Gs.map tN)) (ev_tup (ev_cons (ev_fn (ev_cons (ev_var D2) lNil_eq) (ev_g1 listD_tup)) lNil_eq)) (tl1 _ _ D1) (add_tup (by simp; omega))) (ev_cons eC_eq lNil_eq))))))))
    rw [add_tup (by simp; omega)]
    simp
  rw [← hE]
  refine ev_seq (ev_set (ev_fn (ev_cons (ev_var E0) (ev_cons (ev_bin (x := .lst s4) (y := .lst [.tup (.tup (odd :: r'.map .int) :: Gs.map tN), .str "?", .dct [], tN (x0 :: r'), d2]) (ev_var E4) (ev_lst (ev_cons (ev_bin (x := .tup [.tup (odd :: r'.map .int)]) (y := .tup (Gs.map tN)) (ev_tup (ev_cons (ev_bin (x := .tup [odd]) (y := .tup (r'.map .int)) (ev_tup (ev_cons (ev_var E3) lNil_eq)) (tl2 _ _ E2) (add_tup (by simp; omega))) lNil_eq)) (tl1 _ _ E1) (add_tup (by simp; omega))) (ev_cons eC_eq (ev_cons eC_eq (ev_cons (ev_var E2) (ev_cons (ev_fn (by and_intros) c1) lNil_eq)))))) (add_lst (by simp [s4]))) lNil_eq)) e1)) ?_
  refine ev_seq (ev_set (d := .tup (L5.map .glo)) (by and_intros)) (ev_ret ?_)
  refine (eAnd_t (st1 := [h4]) (ev_bin (x := .lst (List.replicate 5 (.str "game"))) (y := .lst (List.replicate 5 (.str "game"))) (ev_lcM L5 .glo (fun _ => .str "game") (ev_iSeq (x := .tup (L5.map .glo)) (ev_var put_eq) rfl) (fun y hy => ⟨_, rfl, ev_fn (by and_intros) (word_eq hy hb)⟩) (by simp [L5])) (ev_bin (by and_intros) eC_eq (many "game" (n := 5) (by omega))) (same (by simp)))).trans ?_
  exact ev_bin (ev_fn (by and_intros) (judged_word_eq hb)) eC_eq (by rw [eqD_str]; simp)
end
/-! ### drawn games -/
theorem game_ok {h : List D} (hh : Hok h) : ∃ w G h', F__law_game [.obj 0] [h] = .ok (gm G) [h'] ∧ Go w G ∧ Hok h' := by
  obtain ⟨x, h1, a1, a2, a3⟩ := draw_i hh (k := 3) (by omega) (by omega)
  obtain ⟨y, h2, b1, b2, b3⟩ := draw_i a3 (k := 3) (by omega) (by omega)
  obtain ⟨d, h3, c1, c2, c3⟩ := any_i (xs := [.int 1, .int 2, .int 20]) b3 (by simp) (by simp)
  obtain ⟨m, rfl, m1, m2⟩ : ∃ m : Int, d = .int m ∧ 1 ≤ m ∧ m ≤ 20 := by
    simp only [List.mem_cons, List.not_mem_nil, or_false] at c2
    rcases c2 with rfl | rfl | rfl
    · exact ⟨1, rfl, by omega, by omega⟩
    · exact ⟨2, rfl, by omega, by omega⟩
    · exact ⟨20, rfl, by omega, by omega⟩
  have ex : (1 : Int) + (x : Int) = ((1 + x : Nat) : Int) := by omega
  have ey : (1 : Int) + (y : Int) = ((1 + y : Nat) : Int) := by omega
  obtain ⟨E, hE⟩ : ∃ X : En, X = ((((env0 [.obj 0]).put 1 false (.int (1 + x : Nat))).put 2 false (.int (1 + y : Nat))).put 3 false (.int m)).put 4 true (.lst []) := ⟨_, rfl⟩
  have E0 : E 0 = some (false, .obj 0) := by rw [hE]; and_intros
  have E1 : E 1 = some (false, .int (1 + x : Nat)) := by rw [hE]; and_intros
  have E2 : E 2 = some (false, .int (1 + y : Nat)) := by rw [hE]; and_intros
  have E3 : E 3 = some (false, .int m) := by rw [hE]; and_intros
  have E4 : E 4 = some (true, .lst (([] : Gm).map tN)) := by rw [hE]; exact put_eq
  obtain ⟨e', s', f1, L, h4, rfl, g1, g2, g3, g4, g5, g6, g7⟩ := sFor_run (st := [h3]) (st1 := [h3]) (env := E) (it := iRng1S (eVar 1)) (g := gNm 5) (b := (sApp 4 (eFn (g1 fun d => lift (tupD d)) (lCons (eLc [6, 7] (iRng1S (eVar 2)) (gNm 7) tYesS (eBin (pur subD) (eFn F__law_draw (lCons (eVar 0) (lCons (eBin (pur addA) (eBin (pur mulA) (eC (.int 2)) (eVar 3)) (eC (.int 1))) lNil))) (eVar 3))) lNil))))
    (I := fun i e s => ∃ (L : Gm) (h' : List D), s = [h'] ∧ Hok h' ∧ e 0 = some (false, .obj 0) ∧ e 2 = some (false, .int (1 + y : Nat)) ∧ e 3 = some (false, .int m) ∧ e 4 = some (true, .lst (L.map tN)) ∧ L.length = i ∧ ∀ r ∈ L, r.length = 1 + y ∧ ∀ z ∈ r, -20 ≤ z ∧ z ≤ 20)
    ((rgI 0 (1 + x : Nat)).map .int) (ev_iRngI (ev_var E1) (by omega)) ⟨[], h3, rfl, c3, E0, E2, E3, E4, rfl, by simp⟩ (by
    rintro i d e s hd ⟨L, h', rfl, hk, e0, e2, e3, e4, hl, hL⟩
    have hi : i < 1 + x := by
      have := (List.getElem?_eq_some_iff.mp hd).1
      rw [List.length_map, rgI_len] at this
      omega
    obtain ⟨ys, s', q1, l, h5, rfl, q2, rfl, q3, q4⟩ := eLc_run (st := [h']) (st1 := [h']) (env := e.put 5 false d) (vs := [6, 7]) (it := iRng1S (eVar 2)) (g := gNm 7) (t := tYesS) (m := (eBin (pur subD) (eFn F__law_draw (lCons (eVar 0) (lCons (eBin (pur addA) (eBin (pur mulA) (eC (.int 2)) (eVar 3)) (eC (.int 1))) lNil))) (eVar 3)))
      (I := fun i a s => ∃ (l : List Int) (h' : List D), a = l.map .int ∧ l.length = i ∧ s = [h'] ∧ Hok h' ∧ ∀ z ∈ l, -20 ≤ z ∧ z ≤ 20) ((rgI 0 (1 + y : Nat)).map .int) (ev_iRngI (ev_var (put_no e2)) (by omega)) (by simp [rgI_len]; omega) ⟨[], h', rfl, rfl, rfl, hk, by simp⟩ (by
      rintro i2 d2 a s hd ⟨l, h6, rfl, l1, rfl, l2, l3⟩
      obtain ⟨z, h7, p1, p2, p3⟩ := draw_i l2 (k := 2 * m + 1) (by omega) (by omega)
      refine ⟨_, true, _, rfl, rfl, fun _ => ⟨.int (z - m), _, ev_bin (ev_fn (ev_cons (ev_var (put_no (clr_no (put_no e0)))) (ev_cons (ev_bin (ev_bin eC_eq (ev_var (put_no (clr_no (put_no e3)))) (mulS_l (by omega))) eC_eq addA_int) lNil_eq)) p1) (ev_var (put_no (clr_no (put_no e3)))) subD_int, l ++ [(z - m : Int)], h7, by simp, by simp [l1], rfl, p3, fun w hw => ?_⟩, fun h => by cases h⟩
      rcases List.mem_append.mp hw with q | q
      · exact l3 w q
      · rw [List.mem_singleton.mp q]; omega)
    rw [List.length_map, rgI_len] at q2
    refine ⟨_, _, _, rfl, ev_app (put_no e4) (ev_fn (ev_cons q1 lNil_eq) (ev_g1 tupD_lst)) (by rw [List.length_map]; omega), L ++ [l], h5, rfl, q3, put_no (put_no e0), put_no (put_no e2), put_no (put_no e3), put_eq.trans (by simp), by simp [hl], fun r hr => ?_⟩
    rcases List.mem_append.mp hr with q | q
    · exact hL r q
    · rw [List.mem_singleton.mp q]
      exact ⟨by omega, q4⟩)
  rw [List.length_map, rgI_len] at g6
  refine ⟨1 + y, L, h4, ev_call (s := M__law_game) ?_, ⟨by omega, by omega, by omega, by omega, fun r hr => (g7 r hr).1, fun r hr => (g7 r hr).2⟩, g1⟩
  unfold M__law_game
  refine ev_seq (ev_asg (d := .tup [.int (1 + x : Nat), .int (1 + y : Nat), .int m]) (ev_tup (ev_cons (ev_to (ev_bin eC_eq (ev_fn (by and_intros) a1) addA_int) (by rw [ex])) (ev_cons (ev_to (ev_bin eC_eq (ev_fn (by and_intros) b1) addA_int) (by rw [ey])) (ev_cons (ev_fn (by and_intros) c1) lNil_eq)))) rfl) ?_
  refine ev_seq (ev_own (ev_lst lNil_eq)) ?_
  show sSeq _ _ (((((env0 [.obj 0]).put 1 false (.int (1 + x : Nat))).put 2 false (.int (1 + y : Nat))).put 3 false (.int m)).put 4 true (.lst [])) [h3] = _
  rw [← hE]
  exact ev_seq f1 (ev_ret (ev_fn (ev_cons (ev_varB g5) lNil_eq) (ev_g1 tupD_lst)))
end Lw76


set_option Elab.async false
set_option linter.all false
set_option maxRecDepth 100000
set_option maxHeartbeats 2000000
namespace Lw76
open PySem PySem.Spec L2 Sm
local macro_rules | `(tactic| and_intros) => `(tactic| first
  | (show _ = _; with_reducible assumption)
  | with_reducible exact eC_eq
  | with_reducible exact lNil_eq
  | with_reducible exact ev_pNo
  | with_reducible exact put_eq
  | (with_reducible refine put_no ?_ (by rfl)) <;> and_intros
  | (with_reducible refine clr_no ?_ (by rfl)) <;> and_intros
  | (with_reducible apply ev_var) <;> try and_intros
  | (with_reducible apply ev_varB) <;> try and_intros
  | (with_reducible apply ev_cons) <;> try and_intros
  | (with_reducible apply ev_tV) <;> try and_intros
  | (with_reducible apply ev_bin) <;> try and_intros
  | (with_reducible apply ev_ix) <;> try and_intros
  | (with_reducible apply ev_fn) <;> try and_intros
  | (with_reducible apply ev_g1) <;> try and_intros
  | (with_reducible apply ev_g2) <;> try and_intros
  | (with_reducible apply ev_set) <;> try and_intros
  | (with_reducible apply ev_ret) <;> try and_intros
  | (with_reducible apply ev_own) <;> try and_intros
  | (with_reducible apply ev_drop) <;> try and_intros
  | (with_reducible apply ev_tNot) <;> try and_intros
  | (with_reducible apply ev_tAnd) <;> try and_intros
  | (with_reducible apply ev_tOr) <;> try and_intros
  | (with_reducible apply ev_and) <;> try and_intros
  | (with_reducible apply ev_or) <;> try and_intros
  | (with_reducible apply ev_not) <;> try and_intros
  | (with_reducible apply ev_neg) <;> try and_intros
  | (with_reducible apply ev_if) <;> try and_intros
  | (with_reducible apply ev_chain) <;> try and_intros
  | (with_reducible apply ev_tup) <;> try and_intros
  | (with_reducible apply ev_lst) <;> try and_intros
  | (with_reducible apply ev_isa) <;> try and_intros
  | (with_reducible apply ev_lcM) <;> try and_intros
  | (with_reducible apply ev_lc) <;> try and_intros
  | (with_reducible apply ev_iSeq) <;> try and_intros
  | (with_reducible apply ev_iRng) <;> try and_intros
  | (with_reducible apply ev_iEnum) <;> try and_intros
  | (with_reducible apply ev_iZip) <;> try and_intros
  | (with_reducible apply ev_sl) <;> try and_intros
  | (with_reducible apply ev_pAt) <;> try and_intros
  | (with_reducible apply ev_rev) <;> try and_intros
  | (with_reducible apply ev_dct1) <;> try and_intros
  | (with_reducible apply ev_lenSet) <;> try and_intros
  | (with_reducible apply ev_srtSet) <;> try and_intros
  | (with_reducible apply ev_rgL1) <;> try and_intros
  | (with_reducible apply ev_seqNever) <;> try and_intros
  | (with_reducible apply ev_never) <;> try and_intros
  | (with_reducible apply ev_seqIfSet) <;> try and_intros
  | (with_reducible apply ev_ifRet) <;> try and_intros
  | (with_reducible apply ev_ifElse) <;> try and_intros
  | (with_reducible apply ev_seq) <;> try and_intros
  | (with_reducible apply ev_frz) <;> try and_intros
  | (with_reducible apply ev_frzNo) <;> try and_intros
  | (with_reducible apply ev_par) <;> try and_intros
  | (with_reducible apply ev_par2) <;> try and_intros
  | (with_reducible apply ev_par3) <;> try and_intros
  | (with_reducible apply ev_asg) <;> try and_intros
  | (with_reducible apply ev_app) <;> try and_intros
  | (with_reducible apply ev_ext) <;> try and_intros
  | with_reducible exact addA_int
  | with_reducible exact subD_int
  | with_reducible exact eqD_int
  | with_reducible exact neD_int
  | with_reducible exact ltD_int
  | with_reducible exact leD_int
  | with_reducible exact gtD_int
  | with_reducible exact geD_int
  | with_reducible exact eqD_str
  | with_reducible exact neD_str
  | with_reducible exact lenD_tup'
  | with_reducible exact lenD_lst'
  | with_reducible exact lenD_tup
  | with_reducible exact lenD_lst
  | with_reducible exact tupD_lst
  | with_reducible exact tupD_tup
  | with_reducible exact listD_lst
  | with_reducible exact listD_tup
  | with_reducible exact intD_int
  | with_reducible exact intD_bl
  | with_reducible exact absD_int
  | with_reducible exact allD_p _ _
  | with_reducible exact anyD_p _ _
  | with_reducible exact revD_tup'
  | with_reducible exact revD_lst'
  | with_reducible exact slA_tup'
  | with_reducible exact slA_lst'
  | with_reducible exact sumD_f
  | with_reducible exact inD_ints
  | with_reducible exact inD_intsL
  | with_reducible exact ninD_ints
  | with_reducible exact ninD_intsL
  | with_reducible exact repI
  | (with_reducible apply modD_int) <;> omega
  | (with_reducible apply mulS_l) <;> omega
  | (with_reducible apply mulS_r) <;> omega
  | (with_reducible apply add_tup) <;> try and_intros
  | (with_reducible apply add_lst) <;> try and_intros
  | (with_reducible apply ix_tup) <;> try and_intros
  | (with_reducible apply ix_lst) <;> try and_intros
  | (with_reducible apply ix_tup0) <;> try and_intros
  | (with_reducible apply ix_lst0) <;> try and_intros
  | (with_reducible apply ix_tupL) <;> try and_intros
  | (with_reducible apply ix_lstL) <;> try and_intros
  | (with_reducible apply ev_isOp) <;> try and_intros
  | (with_reducible apply ev_isntOp) <;> try and_intros
  | (with_reducible apply eqD_gen) <;> try and_intros
  | (with_reducible apply neD_gen) <;> try and_intros
  | (show _ ≠ _; first | omega | (simp only [decide_eq_false_iff_not, decide_eq_true_eq] at *; omega) | (simp_all; done) | (simp_all; omega) | skip)
  | (refine fun x hx => ⟨_, rfl, ?_, fun hp => ?_⟩) <;> try and_intros
  | (refine fun x hx => ⟨_, rfl, ?_⟩) <;> try and_intros
  | (with_reducible refine fun (_ : _ = _) => ?_) <;> try and_intros
  | rfl
  | omega
  | (simp only [decide_eq_false_iff_not, decide_eq_true_eq] at *; omega)
  | (simp; done)
  | (simp; omega)
  | (simp_all; done)
  | (simp_all; omega))
theorem w_sure : wrd (.str "sure") = true := by decide +kernel
theorem w_mixed : wrd (.str "mixed") = true := by decide +kernel
theorem w_Mixed : wrd (.str "Mixed") = true := by decide +kernel
theorem w_0 : wrd (.str "0") = true := by decide +kernel
theorem w_q : wrd (.str "?") = true := by decide +kernel
/-- small leaves -/
abbrev Lf (d : D) : Prop := Rw 0 20 d
theorem lf_s {s : Str} (h : wrd (.str s) = true) (hl : s.length ≤ 18 := by decide +kernel) : Lf (.str s) := rw_str h hl
theorem lf_i {i : Int} (h : -1000 ≤ i ∧ i ≤ 1000 := by omega) : Lf (.int i) := rw_int (by omega)
/-- things that are judged -/
abbrev Jd (d : D) : Prop := Rw 40 5000 d
theorem jd_leaf {d : D} (h : Lf d) : Jd d := h.up
theorem t1_of {xs : List D} (h : ∀ x ∈ xs, Lf x) (hl : xs.length ≤ 10) : Rw 1 223 (.tup xs) := (rw_tup h).up (by omega) (by omega)
theorem jd_t {xs : List D} (h : ∀ x ∈ xs, Lf x) (hl : xs.length ≤ 10) : Jd (.tup xs) := (t1_of h hl).up
theorem jd_l {xs : List D} (h : ∀ x ∈ xs, Lf x) (hl : xs.length ≤ 10) : Jd (.lst xs) := (rw_lst h).up (by omega) (by omega)
theorem jd_tt {xs : List D} (h : ∀ x ∈ xs, Lf x) (hl : xs.length ≤ 10) : Jd (.tup [.tup xs]) := (rw_tup (xs := [.tup xs]) (k := 1) (n := 223) (by simp only [List.mem_singleton]; rintro x rfl; exact t1_of h hl)).up (by omega) (by simp)
theorem jd_dct : Jd (.dct []) := ⟨by simp [wrd, wrdK], by simp [dat, datK], by simp [smI, smIK], by simp [wt, wtK]⟩
theorem jd_deep {k : Nat} {d : D} (h : Dq k d) (hk : k < 30) : Jd d := h.rw.up
section
variable {w : Nat} {G : Gm}
theorem rok_gm (h : Go w G) : Rok (gm G) := by
  have l3 := h.h3
  have w3 := h.w3
  refine (rw_tup (k := 1) (n := 69) (xs := G.map tN) fun d hd => ?_).rok (by omega) (by rw [List.length_map]; omega)
  obtain ⟨r, hr, rfl⟩ := List.mem_map.mp hd
  have hl := h.len r hr
  exact (rw_tN (xs := r) fun x hx => by have := h.rng r hr x hx; omega).up (by omega) (by omega)
theorem sure_b (h : Go w G) {p : Nat × Nat} (hp : p ∈ sure G) : p.1 < 3 ∧ p.2 < 3 := by
  obtain ⟨r, x, h1, h2, _⟩ := mem_sure (i := p.1) (j := p.2) |>.mp hp
  have := get_lt h1
  have := get_lt h2
  have := h.len r (get_mem h1)
  have := h.h3
  have := h.w3
  exact ⟨by omega, by omega⟩
theorem due_lf (h : Go w G) : ∃ xs, dueD (sure G) = .tup xs ∧ (∀ x ∈ xs, Lf x) ∧ xs.length ≤ 3 := by
  cases e : sure G with
  | nil => exact ⟨_, rfl, by simp only [List.mem_singleton]; rintro x rfl; exact lf_s w_mixed, by simp⟩
  | cons p S =>
    have hb := sure_b h (p := p) (by rw [e]; simp)
    refine ⟨_, rfl, ?_, by simp⟩
    intro x hx
    simp only [List.mem_cons, List.not_mem_nil, or_false] at hx
    rcases hx with rfl | rfl | rfl
    · exact lf_s w_sure
    · exact lf_i
    · exact lf_i
def jB : Sx := (sSeq (sPar 2 11 (lCons (eFn (g1 fun d => lift (repD d)) (lCons (eVar 10) lNil)) (lCons (eFn F__law_is_told (lCons (eVar 3) (lCons (eVar 10) lNil))) lNil))) (sIf (tOr' (tV (eBin (pur neD) (eFn (g1 fun d => lift (repD d)) (lCons (eFn F_is_sure_or_mixed (lCons (eVar 1) (lCons (eVar 10) lNil))) lNil)) (eFn (g1 fun d => lift (repD d)) (lCons (eVar 11) lNil)))) (tV (eBin (pur neD) (eFn (g1 fun d => lift (repD d)) (lCons (eVar 10) lNil)) (eVar 2)))) (sRet (eC (.bl false))) sNil))
theorem rep_ne {a : Ex} {i : Nat} {x : D} {e : En} {st : Store} (ha : a e st = .ok x st) (hi : e i = some (false, .str x.py.shown)) (h : Rok x) : tV (eBin (pur neD) (eFn (g1 fun d => lift (repD d)) (lCons a lNil)) (eVar i)) e st = .ok false st :=
  ev_tV (ev_bin (ev_fn (ev_cons ha lNil_eq) (ev_g1 (rep_ok h))) (ev_var hi) (by rw [neD_str]; simp))
theorem judge_loop (ho : Go w G) {e : En} {L : List D} {it : Lx} {st st1 : Store} (hi : it e st = .ok L st1) (hL : ∀ d ∈ L, Jd d) (e0 : e 0 = some (false, .obj 0)) (e1 : e 1 = some (false, gm G)) (e3 : e 3 = some (false, .lst ((sure G).map prE))) :
    ∃ e', sFor it (gNm 10) jB e st = .ok (.nx e') st1 ∧ e' 0 = some (false, .obj 0) ∧ e' 1 = some (false, gm G) := by
  obtain ⟨e', s', f1, rfl, g0, g1, _⟩ := sFor_run (b := jB) (g := gNm 10) (I := fun i e s => s = st1 ∧ e 0 = some (false, .obj 0) ∧ e 1 = some (false, gm G) ∧ e 3 = some (false, .lst ((sure G).map prE))) L hi ⟨rfl, e0, e1, e3⟩ (by
    rintro i d e s hd ⟨rfl, e0, e1, e3⟩
    have hj := hL d (List.mem_of_getElem? hd)
    have hr : Rok d := hj.rok
    have h60 : dat 60 d = true := dat_le hj.t (by omega)
    refine ⟨_, _, _, rfl, ev_seq (ev_par (x := .str d.py.shown) (y := .bl (jd (sure G) d)) (ev_fn (by and_intros) (ev_g1 (rep_ok hr))) (ev_fn (by and_intros) (told_eq h60))) (sIf_no ((tOr_no (st1 := s) (rep_no (st1 := s) (ev_fn (by and_intros) (ism_eq ho h60)) (ev_var put_eq) rok_b)).trans (rep_ne (ev_var (by and_intros)) (by and_intros) hr))), rfl, by and_intros, by and_intros, by and_intros⟩)
  exact ⟨e', f1, g0, g1⟩
theorem bl_ne {a b : Bool} {ma mb : Ex} {e : En} {st : Store} (ha : ma e st = .ok (.bl a) st) (hb : mb e st = .ok (.bl b) st) (h : a = b) : tV (eBin (pur neD) ma mb) e st = .ok false st := by
  subst h
  exact ne_same (st1 := st) ha hb (by simp)
set_option maxRecDepth 200000 in
theorem right_ok {h : List D} (hh : Hok h) : ∃ h', F__law_is_right [.obj 0] [h] = .ok (.bl true) [h'] ∧ Hok h' := by
  obtain ⟨w, G, h1, a1, ho, a3⟩ := game_ok hh
  obtain ⟨dd, k, h2, b1, b2, b3, b4, b5⟩ := deep_i a3
  obtain ⟨h3, c1, c2⟩ := refused_ok b5 ho
  have w1 := ho.w1
  have w3 := ho.w3
  have l1 := ho.h1
  have l3 := ho.h3
  have gT := trn_go ho
  obtain ⟨dx, de, dl, dn⟩ := due_lf ho
  have rdue : Rok (dueD (sure G)) := by rw [de]; exact (jd_t dl (by omega)).rok
  have rgm := rok_gm ho
  have rwor : Rok (tN (wor G)) := rok_tN (fun x hx => by
    obtain ⟨p, hp, rfl⟩ := List.mem_map.mp hx
    have := zl (List.mem_filter.mp hp).1
    omega) (by
    unfold wor
    rw [List.length_map]
    have := List.length_filter_le (fun p : List Int × Nat => G.any (wrs p.1)) G.zipIdx
    rw [List.length_zipIdx] at this
    omega)
  have sle : (sure G).length ≤ 9 := by
    have := sure_le ho
    rw [sure_map, List.length_map] at this
    exact this
  obtain ⟨E, hE⟩ : ∃ X : En, X = (((env0 [.obj 0]).put 1 false (gm G)).put 2 false (.str (gm G).py.shown)).put 3 false (.lst ((sure G).map prE)) := ⟨_, rfl⟩
  have E0 : E 0 = some (false, .obj 0) := by rw [hE]; and_intros
  have E1 : E 1 = some (false, gm G) := by rw [hE]; and_intros
  have E2 : E 2 = some (false, .str (gm G).py.shown) := by rw [hE]; and_intros
  have E3 : E 3 = some (false, .lst ((sure G).map prE)) := by rw [hE]; exact put_eq
  refine ⟨h3, ev_call (s := M__law_is_right) ?_, c2⟩
  unfold M__law_is_right
  refine ev_seq (ev_set (ev_fn (by and_intros) a1)) (ev_seq (ev_par (x := .str (gm G).py.shown) (y := .lst ((sure G).map prE)) (ev_fn (by and_intros) (ev_g1 (rep_ok rgm))) (ev_fn (by and_intros) (law_sure_eq ho))) ?_)
  rw [← hE]
  refine ev_seq (ev_set (due_ev E3)) ?_
  obtain ⟨A, hA⟩ : ∃ X : En, X = E.put 4 false (dueD (sure G)) := ⟨_, rfl⟩
  have A0 : A 0 = some (false, .obj 0) := by rw [hA]; and_intros
  have A1 : A 1 = some (false, gm G) := by rw [hA]; and_intros
  have A2 : A 2 = some (false, .str (gm G).py.shown) := by rw [hA]; and_intros
  have A3 : A 3 = some (false, .lst ((sure G).map prE)) := by rw [hA]; and_intros
  have A4 : A 4 = some (false, dueD (sure G)) := by rw [hA]; exact put_eq
  rw [← hA]
  refine ev_ifNo (b := false) (st1 := [h1]) ((tOr_no (st1 := [h1]) (rep_no (st1 := [h1]) (ev_fn (by and_intros) (som_eq ho)) (ev_var A4) rdue)).trans (rep_ne (ev_var A1) A2 rgm)) rfl ?_
  refine ev_seq (ev_asg (d := .tup [.int (flr G), .int (clg G w)]) (ev_tup (ev_cons (mins_ev ho A1) (ev_cons (ev_fn (ev_cons (ev_fn (by and_intros) (law_tops_eq ho)) lNil_eq) (ev_g1 (minD_l (tops_ne ho)))) lNil_eq))) rfl) ?_
  obtain ⟨B, hB⟩ : ∃ X : En, X = (A.put 5 false (.int (flr G))).put 6 false (.int (clg G w)) := ⟨_, rfl⟩
  have B0 : B 0 = some (false, .obj 0) := by rw [hB]; and_intros
  have B1 : B 1 = some (false, gm G) := by rw [hB]; and_intros
  have B3 : B 3 = some (false, .lst ((sure G).map prE)) := by rw [hB]; and_intros
  have B4 : B 4 = some (false, dueD (sure G)) := by rw [hB]; and_intros
  have B5 : B 5 = some (false, .int (flr G)) := by rw [hB]; and_intros
  have B6 : B 6 = some (false, .int (clg G w)) := by rw [hB]; exact put_eq
  rw [← hB]
  have fc := flr_le ho
  have si := sure_iff ho
  refine ev_ifNo (b := false) (st1 := [h1]) ((tOr_no (st1 := [h1]) (ne_same (st1 := [h1]) (ev_fn (by and_intros) (floor_eq ho)) (ev_var B5) (by simp))).trans ((tOr_no (st1 := [h1]) (ne_same (st1 := [h1]) (ev_fn (by and_intros) (ceiling_eq ho)) (ev_var B6) (by simp))).trans ((tOr_no (st1 := [h1]) (ev_tV (ev_bin (ev_var B5) (ev_var B6) (gtD_int.trans (by simp; omega))))).trans (bl_ne (ev_bin (ev_var B5) (ev_var B6) eqD_int) (ev_bin (lnS_ev B3) eC_eq gtD_int) ?_)))) rfl ?_
  · rw [Bool.eq_iff_iff]
    simp only [decide_eq_true_eq]
    rw [si, ← List.length_pos_iff]
    omega
  refine ev_ifNo (b := false) (st1 := [h1]) (ev_to (ev_tNot (ev_tV (ev_fn (ev_cons (ev_lcM (sure G) prE (fun _ => .bl true) (ev_iSeq (ev_var B3) rfl) (fun p hp => ?_) (by omega)) lNil_eq) (ev_g1 (allD_p _ _))))) (by simp)) rfl ?_
  · obtain ⟨r, r1, r2, _⟩ := worth ho (i := p.1) (j := p.2) hp
    exact ⟨_, rfl, ev_bin (ev_ix (ev_ix (ev_var (put_no (put_no (clr_no B1)))) (ev_var (put_no put_eq)) (ix_tup (f := tN) r1)) (ev_var put_eq) (ix_tI r2)) (ev_var (put_no (put_no (clr_no B5)))) (eqD_int.trans (by simp))⟩
  refine ev_seq (ev_set (wor_ev ho (fun a b ha => law_worse_eq ha) B1 rfl rfl rfl rfl rfl rfl)) ?_
  refine ev_ifNo (b := false) (st1 := [h1]) (rep_no (st1 := [h1]) (ev_fn (by and_intros) (worse_eq ho)) (ev_fn (by and_intros) (ev_g1 tupD_lst)) rwor) rfl ?_
  refine ev_seq (ev_set (trn_ev ho (put_no B1) rfl rfl rfl rfl)) ?_
  obtain ⟨C, hC⟩ : ∃ X : En, X = (B.put 8 false (lN (wor G))).put 7 false (gm (trn G w)) := ⟨_, rfl⟩
  have C0 : C 0 = some (false, .obj 0) := by rw [hC]; and_intros
  have C1 : C 1 = some (false, gm G) := by rw [hC]; and_intros
  have C3 : C 3 = some (false, .lst ((sure G).map prE)) := by rw [hC]; and_intros
  have C4 : C 4 = some (false, dueD (sure G)) := by rw [hC]; and_intros
  have C5 : C 5 = some (false, .int (flr G)) := by rw [hC]; and_intros
  have C6 : C 6 = some (false, .int (clg G w)) := by rw [hC]; and_intros
  have C7 : C 7 = some (false, gm (trn G w)) := by rw [hC]; exact put_eq
  rw [← hC]
  refine ev_ifNo (b := false) (st1 := [h1]) ((tOr_no (st1 := [h1]) (ne_same (st1 := [h1]) (ev_fn (by and_intros) (turned_eq ho)) (ev_var C7) (by simp))).trans (ne_same (st1 := [h1]) (x := gm G) (ev_fn (by and_intros) ((turned_eq gT).trans (by rw [trn_trn ho]))) (ev_var C1) (by simp))) rfl ?_
  refine ev_ifNo (b := false) (st1 := [h1]) ((tOr_no (st1 := [h1]) (ne_same (st1 := [h1]) (x := .int (0 - clg G w)) (ev_fn (by and_intros) ((floor_eq gT).trans (by rw [flr_trn ho]))) (ev_bin eC_eq (ev_var C6) subD_int) (by simp))).trans (ne_same (st1 := [h1]) (x := .int (0 - flr G)) (ev_fn (by and_intros) ((ceiling_eq gT).trans (by rw [clg_trn ho]))) (ev_bin eC_eq (ev_var C5) subD_int) (by simp))) rfl ?_
  refine ev_ifNo (b := false) (st1 := [h1]) (ne_same (st1 := [h1]) (x := .lst ((sure (trn G w)).map prE)) (ev_fn (ev_cons (ev_lcM (sure G) prE (fun p => prE (p.2, p.1)) (ev_iSeq (ev_var C3) rfl) (fun p hp => ⟨_, rfl, ev_tup (ev_cons (ev_var put_eq) (ev_cons (ev_var (put_no put_eq)) lNil_eq))⟩) (by omega)) lNil_eq) (ev_g1 (swap_sort ho))) (ev_fn (by and_intros) (law_sure_eq gT)) (by simp)) rfl ?_
  let s1 : List D := [dueD (sure G), .tup [.str "mixed"], .tup [.str "sure", .int 0, .int 0], .tup [.str "sure", .int ((G.length : Int) - 1), .int ((w : Int) - 1)], .tup [.str "sure", .int 0], .tup [.str "Mixed"]]
  let s2 : List D := (s1 ++ (sure G).map fun p => .tup [.str "sure", .int (p.1 : Nat), .int (p.2 : Nat)]) ++ [.lst dx, .tup [dueD (sure G)], .tup (dx ++ [.int 0]), .tup [.str "sure", .non, .int 0], .tup []]
  let s3 : List D := s2 ++ [.tup [.str "sure", .int (-1), .int (-1)], .tup [.str "sure", .str "0", .int 0], .non, .int 0, .dct [], dd, .tup [.str "mixed", .int 0, .int 0]]
  refine ev_seq (ev_set (d := .lst s1) (ev_lst (ev_cons (ev_var C4) (ev_cons (by and_intros) (ev_cons (by and_intros) (ev_cons (ev_tup (ev_cons eC_eq (ev_cons (ev_bin (x := .int G.length) (ev_fn (by and_intros) (ev_g1 lenD_tup')) eC_eq subD_int) (ev_cons (ev_bin (len0_ev ho C1) eC_eq subD_int) lNil_eq)))) (ev_cons (by and_intros) (ev_cons (by and_intros) lNil_eq)))))))) ?_
  have d4 : ∀ e : En, e 4 = some (false, dueD (sure G)) → e 4 = some (false, .tup dx) := fun e h => by rw [h, de]
  refine ev_seq (ev_set (d := .lst s2) (ev_bin (x := .lst (s1 ++ (sure G).map fun p => .tup [.str "sure", .int (p.1 : Nat), .int (p.2 : Nat)])) (ev_bin (x := .lst s1) (ev_var put_eq) (ev_lcM (sure G) prE (fun p => .tup [.str "sure", .int (p.1 : Nat), .int (p.2 : Nat)]) (ev_iSeq (ev_var (put_no C3)) rfl) (fun p hp => ⟨_, rfl, ev_bin (x := .tup [.str "sure"]) (y := prE p) (by and_intros) (ev_var put_eq) (add_tup (by simp))⟩) (by omega)) (add_lst (by rw [List.length_map]; simp only [s1, List.length_cons, List.length_nil]; omega))) (ev_lst (ev_cons (ev_fn (ev_cons (ev_var (d4 _ (put_no C4))) lNil_eq) (ev_g1 listD_tup)) (ev_cons (ev_tup (ev_cons (ev_var (put_no C4)) lNil_eq)) (ev_cons (ev_bin (x := .tup dx) (y := .tup [.int 0]) (ev_var (d4 _ (put_no C4))) (by and_intros) (add_tup (by rw [List.length_singleton]; omega))) (ev_cons (by and_intros) (ev_cons (by and_intros) lNil_eq)))))) (add_lst (by rw [List.length_append, List.length_map]; simp only [s1, List.length_cons, List.length_nil]; omega)))) ?_
  have it : ∀ e : En, e 0 = some (false, .obj 0) → e 9 = some (false, .lst s2) → (iSeq (eBin (pur addA) (eVar 9) (eLst (lCons (eTup (lCons (eC (.str "sure")) (lCons (eNeg (eC (.int 1))) (lCons (eNeg (eC (.int 1))) lNil)))) (lCons (eTup (lCons (eC (.str "sure")) (lCons (eC (.str "0")) (lCons (eC (.int 0)) lNil)))) (lCons (eC .non) (lCons (eC (.int 0)) (lCons (eC (.dct [])) (lCons (eFn F__law_deep (lCons (eVar 0) lNil)) (lCons (eTup (lCons (eC (.str "mixed")) (lCons (eC (.int 0)) (lCons (eC (.int 0)) lNil)))) lNil)))))))))) e [h1] = .ok s3 [h2] := fun e z0 z9 =>
    ev_iSeq (x := .lst s3) (ev_bin (x := .lst s2) (ev_var z9) (ev_lst (ev_cons (by and_intros) (ev_cons (by and_intros) (ev_cons eC_eq (ev_cons eC_eq (ev_cons eC_eq (ev_cons (ev_fn (by and_intros) b1) (ev_cons (by and_intros) lNil_eq)))))))) (add_lst (by simp only [s2, s1, List.length_append, List.length_map, List.length_cons, List.length_nil]; omega))) rfl
  have j1 : ∀ {a b : D}, Lf a → Lf b → ∀ x ∈ [D.str "sure", a, b], Lf x := fun h1 h2 x hx => by
    simp only [List.mem_cons, List.not_mem_nil, or_false] at hx
    rcases hx with rfl | rfl | rfl
    · exact lf_s w_sure
    · exact h1
    · exact h2
  have jm : ∀ d ∈ s3, Jd d := by
    intro d hd
    simp only [s3, s2, s1, List.mem_append, List.mem_cons, List.not_mem_nil, or_false, List.mem_map] at hd
    have hdx : ∀ x ∈ dx ++ [D.int 0], Lf x := fun x hx => by
      rcases List.mem_append.mp hx with q | q
      · exact dl x q
      · rw [List.mem_singleton.mp q]; exact lf_i
    rcases hd with (((rfl | rfl | rfl | rfl | rfl | rfl) | ⟨p, hp, rfl⟩) | rfl | rfl | rfl | rfl | rfl) | rfl | rfl | rfl | rfl | rfl | rfl | rfl
    · rw [de]; exact jd_t dl (by omega)
    · exact jd_t (by simp only [List.mem_singleton]; rintro x rfl; exact lf_s w_mixed) (by simp)
    · exact jd_t (j1 lf_i lf_i) (by simp)
    · exact jd_t (j1 lf_i lf_i) (by simp)
    · exact jd_t (by
        intro x hx
        simp only [List.mem_cons, List.not_mem_nil, or_false] at hx
        rcases hx with rfl | rfl
        · exact lf_s w_sure
        · exact lf_i) (by simp)
    · exact jd_t (by simp only [List.mem_singleton]; rintro x rfl; exact lf_s w_Mixed) (by simp)
    · have := sure_b ho hp
      exact jd_t (j1 lf_i lf_i) (by simp)
    · exact jd_l dl (by omega)
    · rw [de]; exact jd_tt dl (by omega)
    · exact jd_t hdx (by rw [List.length_append, List.length_singleton]; omega)
    · exact jd_t (j1 rw_non lf_i) (by simp)
    · exact jd_t (by simp) (by simp)
    · exact jd_t (j1 lf_i lf_i) (by simp)
    · exact jd_t (j1 (lf_s w_0) lf_i) (by simp)
    · exact jd_leaf rw_non
    · exact jd_leaf lf_i
    · exact jd_dct
    · exact jd_deep b4 b3
    · exact jd_t (by
        intro x hx
        simp only [List.mem_cons, List.not_mem_nil, or_false] at hx
        rcases hx with rfl | rfl | rfl
        · exact lf_s w_mixed
        · exact lf_i
        · exact lf_i) (by simp)
  obtain ⟨e', f1, f2, f3⟩ := judge_loop ho (e := (C.put 9 false (.lst s1)).put 9 false (.lst s2)) (it _ (by and_intros) put_eq) jm (by and_intros) (by and_intros) (by and_intros)
  exact ev_seq f1 (ev_ret (ev_fn (by and_intros) c1))
end
theorem oA : Go 2 [[1, 2], [0, 5]] := ⟨by decide, by decide, by decide, by decide, by decide, by decide⟩
theorem oB : Go 2 [[1, -1], [-1, 1]] := ⟨by decide, by decide, by decide, by decide, by decide, by decide⟩
theorem oC : Go 2 [[1, 2], [1, 1], [1, 2]] := ⟨by decide, by decide, by decide, by decide, by decide, by decide⟩
theorem oD : Go 2 [[1, 2]] := ⟨by decide, by decide, by decide, by decide, by decide, by decide⟩
theorem tA : dueD (sure [[1, 2], [0, 5]]) = .tup [.str "sure", .int 0, .int 0] := by kernel_rfl
theorem tB : dueD (sure [[1, -1], [-1, 1]]) = .tup [.str "mixed"] := by kernel_rfl
theorem tC : wor [[1, 2], [1, 1], [1, 2]] = [1] := by decide +kernel
theorem tD : trn [[1, 2]] 2 = [[-1], [-2]] := by decide +kernel
theorem plain : ∀ ns : List Int, ns.length ≤ 63 → ∃ st', F_law [scrD ns] [] = .ok (.bl true) st' := by
  intro ns hl
  obtain ⟨h0, d1, hk⟩ := hand2_ok (A := 76) (B := 11) (by omega) (by omega) (st := []) hl
  have d1' : F__law_hand [scrD ns] [] = .ok (.lst h0) [] := d1
  obtain ⟨E, hE⟩ : ∃ X : En, X = ((env0 [scrD ns]).put 1 true (.lst h0)).put 1 false (.obj 0) := ⟨_, rfl⟩
  have E1 : E 1 = some (false, .obj 0) := by rw [hE]; and_intros
  obtain ⟨ys, s', f1, h', rfl, f2, f3⟩ := eLc_run (st := [h0]) (st1 := [h0]) (env := E) (vs := [2, 3]) (it := iRng1S (eC (.int 7))) (g := gNm 3) (t := tYesS) (m := eFn F__law_is_right (lCons (eVar 1) lNil))
    (I := fun i a s => ∃ h' : List D, s = [h'] ∧ Hok h' ∧ ∃ n, a = (List.replicate n true).map .bl) ((rgI 0 (7 : Nat)).map .int) (ev_iRngI (n := 7) eC_eq (by omega)) (by simp [rgI_len]) ⟨h0, rfl, hk, 0, rfl⟩ (by
    rintro i d a s hd ⟨h', rfl, hk', n, rfl⟩
    obtain ⟨h3, r1, r2⟩ := right_ok hk'
    refine ⟨_, true, _, rfl, rfl, fun _ => ⟨_, _, ev_fn (ev_cons (ev_var (put_no (clr_no E1))) lNil_eq) r1, h3, rfl, r2, n + 1, ?_⟩, fun h => by cases h⟩
    rw [List.replicate_succ', List.map_append]
    rfl)
  obtain ⟨n, rfl⟩ := f3
  refine ⟨[h'], ev_call (s := M_law) ?_⟩
  unfold M_law
  refine ev_seq (ev_own (ev_fn (by and_intros) d1')) ?_
  show sSeq _ _ (((env0 [scrD ns]).put 1 true (.lst h0)).put 1 false (.obj 0)) [h0] = _
  rw [← hE]
  refine ev_ifNo (b := false) (st1 := [h0]) (Eq.trans (tOr_no (st1 := [h0]) (ne_same (st1 := [h0]) (x := .tup [.str "sure", .int 0, .int 0]) (ev_fn (ds := [gm [[1, 2], [0, 5]]]) (by and_intros) ((som_eq oA).trans (by rw [tA]))) (by and_intros) (by simp))) (ne_same (st1 := [h0]) (x := .tup [.str "mixed"]) (ev_fn (ds := [gm [[1, -1], [-1, 1]]]) (by and_intros) ((som_eq oB).trans (by rw [tB]))) (by and_intros) (by simp))) rfl ?_
  refine ev_ifNo (b := false) (st1 := [h0]) (Eq.trans (tOr_no (st1 := [h0]) (ne_same (st1 := [h0]) (x := tN [1]) (ev_fn (ds := [gm [[1, 2], [1, 1], [1, 2]]]) (by and_intros) ((worse_eq oC).trans (by rw [tC]))) (by and_intros) (by simp))) (ne_same (st1 := [h0]) (x := gm [[-1], [-2]]) (ev_fn (ds := [gm [[1, 2]]]) (by and_intros) ((turned_eq oD).trans (by rw [tD]))) (by and_intros) (by simp))) rfl ?_
  exact ev_ret (ev_to (ev_fn (ev_cons f1 lNil_eq) (ev_g1 (allD_p _ _))) (by simp))
end Lw76


set_option Elab.async false
set_option linter.all false
set_option maxRecDepth 100000
set_option maxHeartbeats 0
namespace Lw76
open PySem PySem.Spec PyProof.Rows L2 Sm
abbrev R : PySem.W.OpenRow := PySem.W.OpenLaw.row PySem.Challenge.rw_fewclues_k76_whole_games_sure_or_mixed
def file : Str := PySem.Challenge.pw_fewclues_k76_whole_games_sure_or_mixed.main.file
abbrev hk : PySem.W.Hook := hookM 4 file fa fn cls "ClueError" tf
def ob (s : PySem.W.SharedT) : AlM := obsM 4 file fa fn cls "ClueError" tf (HandSHeadRun.getT s)
theorem ob_eq (s : PySem.W.SharedT) : ob s = hk.obs s.abs := obsM_eq (HandSHeadRun.getT_eq s)
def loose : List Str := (["is_integer", "is_within", "is_tuple", "ClueError", "NoGame", "MOST", "FARTHEST", "check_game", "sure_places", "sure_or_mixed", "is_sure_or_mixed", "floor_of", "ceiling_of", "is_worse", "worse_rows", "turned_game", "_law_hand", "_law_draw", "_law_any", "_law_game"] : List Str) ++ (["_law_sure", "_law_is_told", "_law_deep", "_law_word", "_law_judged_word", "_law_is_worse", "_law_are_refused", "_law_is_right", "_law_tops"] : List Str)
theorem run (w : World) : HandSHeadRun.RunEq R (PySem.W.view R.prog [33]) hk ob 3000 loose w := by
  intro os
  kernel_rfl
end Lw76


open PySem PySem.W PySem.Calls PyProof.Rows
theorem PySem.Challenge.cw_fewclues_k76_whole_games_sure_or_mixed_holds : PySem.Challenge.rw_fewclues_k76_whole_games_sure_or_mixed.Holds := by
  w_on; o_law
  refine HandSHeadRun.head_any (r := OpenLaw.row PySem.Challenge.rw_fewclues_k76_whole_games_sure_or_mixed) (q := view (OpenLaw.row PySem.Challenge.rw_fewclues_k76_whole_games_sure_or_mixed).prog [33]) (H := Lw76.hk) (ob := Lw76.ob) (M := 3000) (loose := Lw76.loose) (d := HandSHeadRun.topDef (OpenLaw.row PySem.Challenge.rw_fewclues_k76_whole_games_sure_or_mixed).prog 33) (kwd := []) Lw76.ob_eq
    (by kernel_rfl) (fun s => by kernel_rfl) Lw76.run (by kernel_rfl) (by kernel_rfl) (by kernel_rfl) (by rfl) (by first | assumption | decide +kernel) (by decide +kernel) ⟨rfl, rfl, rfl, rfl, rfl, by decide +kernel⟩ ?hw ?hc
  case hw => w_witness2
  case hc =>
    refine Sm.walk_ofE (l := PySem.Challenge.rw_fewclues_k76_whole_games_sure_or_mixed) (n := 63) (k := 8) (x := "script") (nm := "law") (Fl := Lw76.F_law) (tf := Lw76.tf) rfl (by decide) (by kernel_rfl) ⟨rfl, by decide, by decide⟩ (by kernel_rfl) ?F Lw76.plain
    intro w mg h Y G
    obtain ⟨K, KX, c⟩ := Y
    exact ⟨K, KX, c.hd, c.out, c.empty, fun base TB => Lw76.p_law (Sm.SaysE.of (w := w) KX G c (by kernel_rfl) TB)⟩

