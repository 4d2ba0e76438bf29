import PyProof.Rows.All
import Wide.All
import OpenK.AllK
import Wide.FinOn
import HandS.ForMost
import HandS.Exc
import HandS.TryOnly
import HandS.ExcOwn
import HandS.WordsExc
import HandS.Walk
import HandS.Wide
import HandS.Defaults
import HandS.CallSlots
import HandS.Deep
import PyProof.ReprRoads
import HandS.TupAny
import HandS.TupLe
import HandS.Style
import HandS.Flow
import KE.DataEq
import KE.DataIsa
import KE.DataMinMax
import KE.DataFind
import KE.DataAny
import KE.DataCmp
import KE.LtData
import KE.SortData
import HandS.Words
import HandS.Iter
import HandS.Zip
import HandS.Text
import KE.GoesNew
import PyProof.Claim2Refuses
import KE.KTupSum
import PyProof.CallFns
import HandS.Ends
import HandS.HeadHook1
import HandS.HeadHook2
import HandS.EndBits
import PyProof.Rows.ReprOcc
import PySem.Challenge.RW_fewclues_k88_whole_messages_guarded_and
import KE.KStateDown
import HandS.Head0
import HandS.Head1
import HandS.Head2
import HandS.HeadEnd
set_option Elab.async false
set_option linter.all false
set_option maxRecDepth 100000
set_option maxHeartbeats 1000000
/-! Sm1: data by value, results, worlds, the relation of an environment to a state. -/
namespace Sm
open PySem PySem.Spec L2

/-- data, by value; obj: a cell of the store; glo: a def of the module; scr: a list that is only read (the script) -/
inductive D where
  | non | bl (b : Bool) | int (i : Int) | str (x : Str) | tup (xs : List D) | lst (xs : List D) | dct (kvs : List (D × D)) | obj (i : Nat) | glo (x : Str) | scr (xs : List D)
abbrev Store := List (List D)
inductive Res (α : Type) where
  | ok (a : α) (st : Store) | exc (c : Str) (fs : List (Str × D)) (st : Store) | stuck
abbrev M (α : Type) := Store → Res α
@[simp] def ret {α : Type} (a : α) : M α := fun s => .ok a s
@[simp] def halt {α : Type} : M α := fun _ => .stuck
def bnd {α β : Type} (m : M α) (f : α → M β) : M β := fun s => match m s with
  | .ok a s' => f a s'
  | .exc c d s' => .exc c d s'
  | .stuck => .stuck
@[simp] def lift {α : Type} (o : Option α) : M α := fun s => match o with
  | some a => .ok a s
  | none => .stuck
/-- slots; true: the slot alone holds it (a list of one's own, that may be changed) -/
abbrev En := Nat → Option (Bool × D)
@[simp] def En.put (e : En) (i : Nat) (b : Bool) (d : D) : En := fun j => if j = i then some (b, d) else e j
abbrev Ex := En → M D
abbrev Tx := En → M Bool
abbrev Lx := En → M (List D)
/-- a statement's end: on with env, or returned -/
inductive Fl where
  | nx (e : En) | rt (d : D)
abbrev Sx := En → M Fl
abbrev Gx := D → En → Option En
abbrev Fx := List D → M D

def kD : Key → D
  | .inl i => .int i
  | .inr x => .str x

/-- the object at a has no dict of its own (for its methods) -/
def Dl (K : PySem.W.Frag) (G : Hp) (a : Addr) : Prop := (∃ o u, G a = some (.frz o u) ∧ o.dict = none) ∨ ∃ o, K.lookup a = some o ∧ o.dict = none
theorem Dl.up {K : PySem.W.Frag} {G G' : Hp} {a : Addr} (g : ∀ a o, G a = some o → G' a = some o) (h : Dl K G a) : Dl K G' a := by
  rcases h with ⟨o, u, h, q⟩ | h
  · exact .inl ⟨o, u, g _ _ h, q⟩
  · exact .inr h
section
variable (K : PySem.W.Frag) (mg : Str → Option Value) (as : List Addr) (G : Hp)
mutual
/-- v stands for d in the frozen heap G -/
def Rp : D → V → Prop
  | .non, v => v = .non
  | .bl b, v => v = .bl b
  | .int i, v => v = .int i
  | .str x, v => v = .str x
  | .tup ds, v => ∃ a xs, v = .ref a ∧ SqT K G a xs ∧ Dl K G a ∧ RpL ds xs
  | .lst ds, v => ∃ a xs, v = .ref a ∧ G a = some (.lst xs) ∧ RpL ds xs
  | .scr ds, v => ∃ a xs, v = .ref a ∧ SqL K G a xs ∧ RpL ds xs
  | .dct ds, v => ∃ a, v = .ref a ∧ ((∃ kvs, G a = some (.dK kvs) ∧ RpK ds kvs) ∨ ∃ kvs, G a = some (.dT kvs) ∧ RpT ds kvs)
  | .obj i, v => ∃ a, v = .ref a ∧ as[i]? = some a
  | .glo x, v => ∃ a, v = .ref a ∧ mg x = some (.ref a)
def RpL : List D → List V → Prop
  | [], vs => vs = []
  | d :: ds, vs => ∃ v r, vs = v :: r ∧ Rp d v ∧ RpL ds r
def RpK : List (D × D) → List (Key × V) → Prop
  | [], kvs => kvs = []
  | (k, d) :: ds, kvs => ∃ q v r, kvs = (q, v) :: r ∧ k = kD q ∧ Rp d v ∧ RpK ds r
def RpT : List (D × D) → List (List Key × V) → Prop
  | [], kvs => kvs = []
  | (k, d) :: ds, kvs => ∃ q v r, kvs = (q, v) :: r ∧ k = .tup (q.map kD) ∧ Rp d v ∧ RpT ds r
end
end

theorem SqL.up {K : PySem.W.Frag} {G G' : Hp} {a : Addr} {xs : List V} (g : ∀ a o, G a = some o → G' a = some o) (h : SqL K G a xs) : SqL K G' a xs := by
  rcases h with (h | ⟨o, h⟩) | h
  · exact .inl (.inl (g _ _ h))
  · exact .inl (.inr ⟨o, g _ _ h⟩)
  · exact .inr h
theorem SqT.up {K : PySem.W.Frag} {G G' : Hp} {a : Addr} {xs : List V} (g : ∀ a o, G a = some o → G' a = some o) (h : SqT K G a xs) : SqT K G' a xs := by
  rcases h with (h | ⟨o, h⟩) | h
  · exact .inl (.inl (g _ _ h))
  · exact .inl (.inr ⟨o, g _ _ h⟩)
  · exact .inr h
section
variable {K : PySem.W.Frag} {mg : Str → Option Value} {as as' : List Addr} {G G' : Hp}
mutual
theorem Rp.up (ha : ∀ (i : Nat) a, as[i]? = some a → as'[i]? = some a) (g : ∀ a o, G a = some o → G' a = some o) : ∀ (d : D) (v : V), Rp K mg as G d v → Rp K mg as' G' d v
  | .non, v, h => by simpa only [Rp] using h
  | .bl b, v, h => by simpa only [Rp] using h
  | .int i, v, h => by simpa only [Rp] using h
  | .str x, v, h => by simpa only [Rp] using h
  | .tup ds, v, h => by
    simp only [Rp] at h ⊢
    obtain ⟨a, xs, e, s, z, l⟩ := h
    exact ⟨a, xs, e, SqT.up g s, z.up g, RpL.up ha g ds xs l⟩
  | .lst ds, v, h => by
    simp only [Rp] at h ⊢
    obtain ⟨a, xs, e, s, l⟩ := h
    exact ⟨a, xs, e, g _ _ s, RpL.up ha g ds xs l⟩
  | .scr ds, v, h => by
    simp only [Rp] at h ⊢
    obtain ⟨a, xs, e, s, l⟩ := h
    exact ⟨a, xs, e, SqL.up g s, RpL.up ha g ds xs l⟩
  | .dct ds, v, h => by
    simp only [Rp] at h ⊢
    obtain ⟨a, e, ⟨kvs, s, l⟩ | ⟨kvs, s, l⟩⟩ := h
    · exact ⟨a, e, .inl ⟨kvs, g _ _ s, RpK.up ha g ds kvs l⟩⟩
    · exact ⟨a, e, .inr ⟨kvs, g _ _ s, RpT.up ha g ds kvs l⟩⟩
  | .obj i, v, h => by
    simp only [Rp] at h ⊢
    obtain ⟨a, e, s⟩ := h
    exact ⟨a, e, ha _ _ s⟩
  | .glo x, v, h => by simpa only [Rp] using h
theorem RpL.up (ha : ∀ (i : Nat) a, as[i]? = some a → as'[i]? = some a) (g : ∀ a o, G a = some o → G' a = some o) : ∀ (ds : List D) (vs : List V), RpL K mg as G ds vs → RpL K mg as' G' ds vs
  | [], vs, h => by simpa only [RpL] using h
  | d :: ds, vs, h => by
    simp only [RpL] at h ⊢
    obtain ⟨v, r, e, h1, h2⟩ := h
    exact ⟨v, r, e, Rp.up ha g d v h1, RpL.up ha g ds r h2⟩
theorem RpK.up (ha : ∀ (i : Nat) a, as[i]? = some a → as'[i]? = some a) (g : ∀ a o, G a = some o → G' a = some o) : ∀ (ds : List (D × D)) (vs : List (Key × V)), RpK K mg as G ds vs → RpK K mg as' G' ds vs
  | [], vs, h => by simpa only [RpK] using h
  | (k, d) :: ds, vs, h => by
    simp only [RpK] at h ⊢
    obtain ⟨q, v, r, e, ek, h1, h2⟩ := h
    exact ⟨q, v, r, e, ek, Rp.up ha g d v h1, RpK.up ha g ds r h2⟩
theorem RpT.up (ha : ∀ (i : Nat) a, as[i]? = some a → as'[i]? = some a) (g : ∀ a o, G a = some o → G' a = some o) : ∀ (ds : List (D × D)) (vs : List (List Key × V)), RpT K mg as G ds vs → RpT K mg as' G' ds vs
  | [], vs, h => by simpa only [RpT] using h
  | (k, d) :: ds, vs, h => by
    simp only [RpT] at h ⊢
    obtain ⟨q, v, r, e, ek, h1, h2⟩ := h
    exact ⟨q, v, r, e, ek, Rp.up ha g d v h1, RpT.up ha g ds r h2⟩
end
end

/-! ### worlds: the abstract heap, its frozen part, where the store's cells lie -/
structure Wd where
  H : Hp
  G : Hp
  as : List Addr
section
variable (K : PySem.W.Frag) (mg : Str → Option Value)
structure Wd.Ok (W : Wd) (st : Store) : Prop where
  sub : ∀ a o, W.G a = some o → W.H a = some o
  nod : W.as.Nodup
  dis : ∀ a ∈ W.as, W.G a = none
  len : W.as.length = st.length
  cel : ∀ (i : Nat) (ds : List D), st[i]? = some ds → ∃ a vs, W.as[i]? = some a ∧ W.H a = some (.lst vs) ∧ RpL K mg W.as W.G ds vs
/-- later, where nothing that stood has changed but the store's cells -/
structure Ext (W W' : Wd) : Prop where
  g : ∀ a o, W.G a = some o → W'.G a = some o
  gn : ∀ a, W.G a = none → W'.G a ≠ none → W.H a = none
  as : ∃ l, W'.as = W.as ++ l
  asn : ∀ a ∈ W'.as, a ∈ W.as ∨ W.H a = none
  h : ∀ a o, W.H a = some o → a ∉ W.as → W'.H a = some o
  hn : ∀ a, W'.H a = none → W.H a = none
/-- later: the frozen part and the cells stand -/
structure Lat (W W' : Wd) : Prop where
  g : ∀ a o, W.G a = some o → W'.G a = some o
  as : ∃ l, W'.as = W.as ++ l
/-- the own list or dict at a, its items frozen -/
def Top (W : Wd) (a : Addr) : D → Prop
  | .lst ds => ∃ vs, W.H a = some (.lst vs) ∧ RpL K mg W.as W.G ds vs
  | .dct ds => (∃ kvs, W.H a = some (.dK kvs) ∧ RpK K mg W.as W.G ds kvs) ∨ ∃ kvs, W.H a = some (.dT kvs) ∧ RpT K mg W.as W.G ds kvs
  | _ => False
/-- new since W, told by nothing else -/
def Fresh (W W' : Wd) (d : D) (v : V) : Prop := ∃ a, v = .ref a ∧ W.H a = none ∧ W'.G a = none ∧ a ∉ W'.as ∧ Top K mg W' a d
/-- frozen, or an own one as it stands -/
def Bor (W : Wd) (d : D) (v : V) : Prop := Rp K mg W.as W.G d v ∨ ∃ a, v = .ref a ∧ a ∉ W.as ∧ Top K mg W a d
end
/-- kinds of results: frozen, borrowed, fresh -/
inductive Kd where
  | froz | bor | fresh
def RK (K : PySem.W.Frag) (mg : Str → Option Value) (κ : Kd) (W W' : Wd) (d : D) (v : V) : Prop := match κ with
  | .froz => Rp K mg W'.as W'.G d v
  | .bor => Bor K mg W' d v
  | .fresh => Fresh K mg W W' d v

section
variable {K : PySem.W.Frag} {mg : Str → Option Value} {W W1 W2 W' : Wd} {st st' : Store} {d : D} {v : V}
theorem pre_of {l l' m : List Addr} (e : l' = l ++ m) : ∀ (i : Nat) a, l[i]? = some a → l'[i]? = some a := fun i a h => by
  have hi : i < l.length := by
    by_cases q : i < l.length
    · exact q
    · rw [List.getElem?_eq_none (by omega)] at h; cases h
  rw [e, List.getElem?_append_left hi]; exact h
theorem Ext.pre (e : Ext W W') : ∀ (i : Nat) a, W.as[i]? = some a → W'.as[i]? = some a := let ⟨_, q⟩ := e.as; pre_of q
theorem Lat.pre (e : Lat W W') : ∀ (i : Nat) a, W.as[i]? = some a → W'.as[i]? = some a := let ⟨_, q⟩ := e.as; pre_of q
theorem Ext.refl (W : Wd) : Ext W W := ⟨fun _ _ h => h, fun _ h n => absurd h n, ⟨[], by simp⟩, fun _ h => .inl h, fun _ _ h _ => h, fun _ h => h⟩
theorem Lat.refl (W : Wd) : Lat W W := ⟨fun _ _ h => h, ⟨[], by simp⟩⟩
theorem Ext.lat (e : Ext W W') : Lat W W' := ⟨e.g, e.as⟩
theorem Lat.trans (e : Lat W W1) (f : Lat W1 W2) : Lat W W2 := ⟨fun a o h => f.g a o (e.g a o h), by
  obtain ⟨l, q⟩ := e.as
  obtain ⟨m, r⟩ := f.as
  exact ⟨l ++ m, by rw [r, q, List.append_assoc]⟩⟩
theorem Ext.trans (e : Ext W W1) (f : Ext W1 W2) : Ext W W2 := by
  refine ⟨fun a o h => f.g a o (e.g a o h), fun a h n => ?_, ?_, fun a h => ?_, fun a o h n => ?_, fun a h => e.hn a (f.hn a h)⟩
  · cases q : W1.G a with
    | none => exact e.hn a (f.gn a q n)
    | some o => exact e.gn a h (by rw [q]; intro z; cases z)
  · obtain ⟨l, q⟩ := e.as
    obtain ⟨m, r⟩ := f.as
    exact ⟨l ++ m, by rw [r, q, List.append_assoc]⟩
  · rcases f.asn a h with z | z
    · exact e.asn a z
    · exact .inr (e.hn a z)
  · refine f.h a o (e.h a o h n) fun z => ?_
    rcases e.asn a z with q | q
    · exact n q
    · rw [h] at q; cases q
theorem RpL.len {as : List Addr} {G : Hp} : ∀ {ds : List D} {vs : List V}, RpL K mg as G ds vs → ds.length = vs.length
  | [], vs, h => by simp only [RpL] at h; rw [h]; rfl
  | d :: ds, vs, h => by
    simp only [RpL] at h
    obtain ⟨v, r, e, _, h2⟩ := h
    rw [e, List.length_cons, List.length_cons, RpL.len h2]
theorem Top.ext (e : Ext W W') {a : Addr} (hn : a ∉ W.as) (h : Top K mg W a d) : Top K mg W' a d := by
  cases d with
  | lst ds =>
    obtain ⟨vs, h1, h2⟩ := h
    exact ⟨vs, e.h a _ h1 hn, RpL.up e.pre e.g ds vs h2⟩
  | dct ds =>
    rcases h with ⟨kvs, h1, h2⟩ | ⟨kvs, h1, h2⟩
    · exact .inl ⟨kvs, e.h a _ h1 hn, RpK.up e.pre e.g ds kvs h2⟩
    · exact .inr ⟨kvs, e.h a _ h1 hn, RpT.up e.pre e.g ds kvs h2⟩
  | _ => exact h
theorem Top.there {a : Addr} (h : Top K mg W a d) : W.H a ≠ none := by
  cases d with
  | lst ds => obtain ⟨vs, h1, h2⟩ := h; rw [h1]; intro z; cases z
  | dct ds =>
    rcases h with ⟨kvs, h1, h2⟩ | ⟨kvs, h1, h2⟩ <;> (rw [h1]; intro z; cases z)
  | _ => exact False.elim h
theorem notas (e : Ext W W') {a : Addr} (h : W.H a ≠ none) (hn : a ∉ W.as) : a ∉ W'.as := fun z => (e.asn a z).elim hn h
theorem Rp.ext (e : Ext W W') (h : Rp K mg W.as W.G d v) : Rp K mg W'.as W'.G d v := Rp.up e.pre e.g d v h
theorem Rp.lat (e : Lat W W') (h : Rp K mg W.as W.G d v) : Rp K mg W'.as W'.G d v := Rp.up e.pre e.g d v h
theorem Bor.ext (e : Ext W W') (h : Bor K mg W d v) : Bor K mg W' d v := by
  rcases h with h | ⟨a, ev, hn, h⟩
  · exact .inl (h.ext e)
  · exact .inr ⟨a, ev, notas e h.there hn, h.ext e hn⟩
theorem Fresh.ext {W0 : Wd} (e : Ext W W') (h : Fresh K mg W0 W d v) : Fresh K mg W0 W' d v := by
  obtain ⟨a, ev, n0, ng, na, t⟩ := h
  refine ⟨a, ev, n0, ?_, notas e t.there na, t.ext e na⟩
  cases q : W'.G a with
  | none => rfl
  | some o => exact absurd (e.gn a ng (by rw [q]; intro z; cases z)) t.there
theorem Fresh.bor {W0 : Wd} (h : Fresh K mg W0 W d v) : Bor K mg W d v := let ⟨a, ev, _, _, na, t⟩ := h; .inr ⟨a, ev, na, t⟩
theorem RK.bor {κ : Kd} (h : RK K mg κ W W' d v) : Bor K mg W' d v := by
  cases κ with
  | froz => exact .inl h
  | bor => exact h
  | fresh => exact Fresh.bor h
theorem RK.down {κ : Kd} (e : Ext W W1) (h : RK K mg κ W1 W' d v) : RK K mg κ W W' d v := by
  cases κ with
  | froz => exact h
  | bor => exact h
  | fresh =>
    obtain ⟨a, ev, n0, r⟩ := h
    exact ⟨a, ev, e.hn a n0, r⟩
/-- a is frozen from now on -/
def Wd.frz (W : Wd) (a : Addr) : Wd := { W with G := fun b => if b = a then W.H a else W.G b }
theorem frz_g {a : Addr} (ng : W.G a = none) : ∀ b o, W.G b = some o → (W.frz a).G b = some o := fun b o h => by
  show (if b = a then W.H a else W.G b) = some o
  rw [if_neg (fun z => by rw [z, ng] at h; cases h)]
  exact h
theorem frz_ok {a : Addr} (k : W.Ok K mg st) (ng : W.G a = none) (na : a ∉ W.as) : (W.frz a).Ok K mg st := by
  refine ⟨fun b o h => ?_, k.nod, fun b hb => ?_, k.len, fun i ds h => ?_⟩
  · have h' : (if b = a then W.H a else W.G b) = some o := h
    by_cases q : b = a
    · rw [if_pos q] at h'; rw [q]; exact h'
    · rw [if_neg q] at h'; exact k.sub b o h'
  · show (if b = a then W.H a else W.G b) = none
    rw [if_neg (fun (z : b = a) => na (z ▸ hb))]
    exact k.dis b hb
  · obtain ⟨c, vs, h1, h2, h3⟩ := k.cel i ds h
    exact ⟨c, vs, h1, h2, RpL.up (fun _ _ h => h) (frz_g ng) ds vs h3⟩
theorem frz_lat {a : Addr} (ng : W.G a = none) : Lat W (W.frz a) := ⟨frz_g ng, ⟨[], by show W.as = W.as ++ []; simp⟩⟩
theorem frz_ext {W0 : Wd} {a : Addr} (e : Ext W0 W) (n0 : W0.H a = none) (ng : W.G a = none) : Ext W0 (W.frz a) := by
  refine ⟨fun b o h => frz_g ng b o (e.g b o h), fun b h n => ?_, e.as, e.asn, e.h, e.hn⟩
  by_cases q : b = a
  · rw [q]; exact n0
  · refine e.gn b h fun z => n ?_
    show (if b = a then W.H a else W.G b) = none
    rw [if_neg q]; exact z
theorem frz_rp {a : Addr} (ng : W.G a = none) (t : Top K mg W a d) : Rp K mg (W.frz a).as (W.frz a).G d (.ref a) := by
  have at_ : (W.frz a).G a = W.H a := by show (if a = a then W.H a else W.G a) = W.H a; rw [if_pos rfl]
  cases d with
  | lst ds =>
    obtain ⟨vs, h1, h2⟩ := t
    simp only [Rp]
    exact ⟨a, vs, rfl, (by rw [at_]; exact h1), RpL.up (fun _ _ h => h) (frz_g ng) ds vs h2⟩
  | dct ds =>
    simp only [Rp]
    rcases t with ⟨kvs, h1, h2⟩ | ⟨kvs, h1, h2⟩
    · exact ⟨a, rfl, .inl ⟨kvs, by rw [at_]; exact h1, RpK.up (fun _ _ h => h) (frz_g ng) ds kvs h2⟩⟩
    · exact ⟨a, rfl, .inr ⟨kvs, by rw [at_]; exact h1, RpT.up (fun _ _ h => h) (frz_g ng) ds kvs h2⟩⟩
  | _ => exact False.elim t
end

/-! ### the context of a body -/
structure Cn where
  X : Cx
  W0 : Wd
  Wx : WX
abbrev Cn.ok (C : Cn) (W : Wd) (st : Store) : Prop := W.Ok C.X.K C.X.mg st
abbrev Cn.rp (C : Cn) (W : Wd) (d : D) (v : V) : Prop := Rp C.X.K C.X.mg W.as W.G d v
abbrev Cn.rk (C : Cn) (κ : Kd) (W W' : Wd) (d : D) (v : V) : Prop := RK C.X.K C.X.mg κ W W' d v
/-- the environment env at the slots σ -/
structure SR (C : Cn) (env : En) (W : Wd) (st : Store) (σ : L2.St) : Prop where
  ext : Ext C.W0 W
  len : σ.length = C.X.N.length
  ok : C.ok W st
  slot : ∀ (i : Nat) b d, env i = some (b, d) → ∃ v, σ[i]? = some (some v) ∧ (if b = true then Fresh C.X.K C.X.mg C.W0 W d v else C.rp W d v)
  dis : ∀ (i j : Nat) d e a, i ≠ j → env i = some (true, d) → env j = some (true, e) → σ[i]? = some (some (.ref a)) → σ[j]? = some (some (.ref a)) → False
/-- what an exception bears -/
def Bears (C : Cn) (W : Wd) (c : Str) (fs : List (Str × D)) (cl : Addr) (d : Option Addr) : Prop :=
  C.X.mg c = some (.ref cl) ∧ match fs with
    | [] => True
    | [(f, x)] => ∃ dd v, d = some dd ∧ W.H dd = some (.xd [(f, v)]) ∧ C.rp W x v
    | _ => False
def Out (C : Cn) (σ : L2.St) (W : Wd) {α : Type} (r : Res α) (k : α → Store → Prop) : Prop := match r with
  | .ok a st => k a st
  | .exc c fs st => ∀ cl d W', Ext W W' → C.ok W' st → Bears C W' c fs cl d → C.Wx (.ref cl) d σ W'.H
  | .stuck => False
def OutS (C : Cn) {α : Type} (r : Res α) (k : α → Store → Prop) : Prop := match r with
  | .ok a st => k a st
  | .exc c fs st => ∀ cl d W' σ', Ext C.W0 W' → C.ok W' st → Bears C W' c fs cl d → C.Wx (.ref cl) d σ' W'.H
  | .stuck => False
section
variable {C : Cn} {σ : L2.St} {W W1 W' : Wd} {α β : Type} {r : Res α} {k k' : α → Store → Prop} {st st' : Store} {env : En}
theorem Out.imp (o : Out C σ W r k) (h : ∀ a st, k a st → k' a st) : Out C σ W r k' := by
  cases r with
  | ok a st => exact h a st o
  | exc c fs st => exact o
  | stuck => exact o
theorem Out.up (e : Ext W W1) (o : Out C σ W r k) : Out C σ W1 r k := by
  cases r with
  | ok a st => exact o
  | exc c fs st => exact fun cl d W' e' => o cl d W' (e.trans e')
  | stuck => exact o
theorem Out.bnd {m : M α} {f : α → M β} {k : β → Store → Prop} (o : Out C σ W (bnd m f st) k) : Out C σ W (m st) fun a st' => Out C σ W (f a st') k := by
  unfold Sm.bnd at o
  cases q : m st with
  | ok a st' => rw [q] at o; exact o
  | exc c fs st' => rw [q] at o; exact o
  | stuck => rw [q] at o; exact o
theorem OutS.imp (o : OutS C r k) (h : ∀ a st, k a st → k' a st) : OutS C r k' := by
  cases r with
  | ok a st => exact h a st o
  | exc c fs st => exact o
  | stuck => exact o
theorem OutS.bnd {m : M α} {f : α → M β} {k : β → Store → Prop} (o : OutS C (bnd m f st) k) : OutS C (m st) fun a st' => OutS C (f a st') k := by
  unfold Sm.bnd at o
  cases q : m st with
  | ok a st' => rw [q] at o; exact o
  | exc c fs st' => rw [q] at o; exact o
  | stuck => rw [q] at o; exact o
/-- an expression within a statement -/
theorem OutS.out (o : OutS C r k) (e : Ext C.W0 W) : Out C σ W r k := by
  cases r with
  | ok a st => exact o
  | exc c fs st => exact fun cl d W' e' => o cl d W' σ (e.trans e')
  | stuck => exact o
theorem SR.up (R : SR C env W st σ) (e : Ext W W') (k : C.ok W' st') : SR C env W' st' σ := by
  refine ⟨R.ext.trans e, R.len, k, fun i b d h => ?_, R.dis⟩
  obtain ⟨v, h1, h2⟩ := R.slot i b d h
  refine ⟨v, h1, ?_⟩
  by_cases q : b = true
  · rw [if_pos q] at h2 ⊢; exact h2.ext e
  · rw [if_neg q] at h2 ⊢; exact h2.ext e
end
/-! ### expressions -/
def TEo (C : Cn) (κ : Kd) (m : Ex) : TE := fun σ H Q => ∃ env W st, W.H = H ∧ SR C env W st σ ∧
  Out C σ W (m env st) fun d st' => ∀ v W', Ext W W' → C.ok W' st' → C.rk κ W W' d v → Q v W'.H
def TTo (C : Cn) (m : Tx) : TT := fun σ H Q => ∃ env W st, W.H = H ∧ SR C env W st σ ∧
  Out C σ W (m env st) fun b st' => ∀ W', Ext W W' → C.ok W' st' → Q b W'.H
def TAo (C : Cn) (m : Lx) : TA := fun σ H Q => ∃ env W st, W.H = H ∧ SR C env W st σ ∧
  Out C σ W (m env st) fun ds st' => ∀ vs W', Ext W W' → C.ok W' st' → RpL C.X.K C.X.mg W'.as W'.G ds vs → Q vs W'.H
/-- e does what m does, its result of kind κ -/
def SE (C : Cn) (κ : Kd) (e : Expr) (m : Ex) : Prop := PE C.X e (TEo C κ m)
def ST (C : Cn) (e : Expr) (m : Tx) : Prop := PT C.X e (TTo C m)
def SW (C : Cn) (e : Expr) (m : Tx) : Prop := PW C.X e (TTo C m)
def SA (C : Cn) (es : List Expr) (m : Lx) : Prop := PA C.X es (TAo C m)
section
variable {C : Cn} {σ : L2.St} {W W1 W' : Wd} {st st' : Store} {env : En} {κ : Kd} {e : Expr} {es : List Expr} {m : Ex} {mt : Tx} {ml : Lx} {pins : List (Addr × Obj)} {s : Shared}
theorem SE.go {Q : Value → Shared → Prop} (h : SE C κ e m) (I : Inv C.X pins σ W.H s) (R : SR C env W st σ)
    (o : Out C σ W (m env st) fun d st' => ∀ v u s' W', Ext W W' → C.ok W' st' → C.rk κ W W' d v → Inv C.X pins σ W'.H s' → RelV v u → Q u s') :
    wpAny (model C.X.prog C.X.w) C.X.A (eval e C.X.env) Q C.X.xe s := by
  refine thn (h.run pins s σ W.H (fun v H' => ∀ u s', Inv C.X pins σ H' s' → RelV v u → Q u s') I ⟨env, W, st, rfl, R, o.imp fun d st' h v W' e k r u s' I' ru => h v u s' W' e k r I' ru⟩) fun u s' ⟨v, H', I', r, q⟩ => q u s' I' r
theorem SE.mk (h : ∀ (pins : List (Addr × Obj)) (s : Shared) (σ : L2.St) (env : En) (W : Wd) (st : Store) (Q : VK), Inv C.X pins σ W.H s → SR C env W st σ →
    (Out C σ W (m env st) fun d st' => ∀ v W', Ext W W' → C.ok W' st' → C.rk κ W W' d v → Q v W'.H) → wpAny (model C.X.prog C.X.w) C.X.A (eval e C.X.env) (EP C.X pins σ Q) C.X.xe s) : SE C κ e m :=
  ⟨fun pins s σ H Q I ⟨env, W, st, hH, R, o⟩ => by subst hH; exact h pins s σ env W st Q I R o⟩
theorem ST.go {Q : Bool → Shared → Prop} (h : ST C e mt) (I : Inv C.X pins σ W.H s) (R : SR C env W st σ)
    (o : Out C σ W (mt env st) fun b st' => ∀ s' W', Ext W W' → C.ok W' st' → Inv C.X pins σ W'.H s' → Q b s') :
    wpAny (model C.X.prog C.X.w) C.X.A (isTrue e C.X.env (eval e C.X.env)) Q C.X.xe s := by
  refine thn (h.run pins s σ W.H (fun b H' => ∀ s', Inv C.X pins σ H' s' → Q b s') I ⟨env, W, st, rfl, R, o.imp fun d st' h W' e k s' I' => h s' W' e k I'⟩) fun b s' ⟨H', I', q⟩ => q s' I'
theorem SW.go {Q : Bool → Shared → Prop} (h : SW C e mt) (wh : Sem Value) (I : Inv C.X pins σ W.H s) (R : SR C env W st σ)
    (o : Out C σ W (mt env st) fun b st' => ∀ s' W', Ext W W' → C.ok W' st' → Inv C.X pins σ W'.H s' → Q b s') :
    wpAny (model C.X.prog C.X.w) C.X.A (isTrue e C.X.env wh) Q C.X.xe s := by
  refine thn (h.run wh pins s σ W.H (fun b H' => ∀ s', Inv C.X pins σ H' s' → Q b s') I ⟨env, W, st, rfl, R, o.imp fun d st' h W' e k s' I' => h s' W' e k I'⟩) fun b s' ⟨H', I', q⟩ => q s' I'
theorem ST.mk (h : ∀ (pins : List (Addr × Obj)) (s : Shared) (σ : L2.St) (env : En) (W : Wd) (st : Store) (Q : Bool → Hp → Prop), Inv C.X pins σ W.H s → SR C env W st σ →
    (Out C σ W (mt env st) fun b st' => ∀ W', Ext W W' → C.ok W' st' → Q b W'.H) → wpAny (model C.X.prog C.X.w) C.X.A (isTrue e C.X.env (eval e C.X.env)) (TP C.X pins σ Q) C.X.xe s) : ST C e mt :=
  ⟨fun pins s σ H Q I ⟨env, W, st, hH, R, o⟩ => by subst hH; exact h pins s σ env W st Q I R o⟩
theorem SA.go {Q : List Value → Shared → Prop} {pos : Pos} (h : SA C es ml) (I : Inv C.X pins σ W.H s) (R : SR C env W st σ)
    (o : Out C σ W (ml env st) fun ds st' => ∀ vs us s' W', Ext W W' → C.ok W' st' → RpL C.X.K C.X.mg W'.as W'.G ds vs → Inv C.X pins σ W'.H s' → Vals vs us → Q us s') :
    wpAny (model C.X.prog C.X.w) C.X.A (spliced (backTo pos (starEach es C.X.env))) Q C.X.xe s := by
  refine thn (h.run pos pins s σ W.H (fun vs H' => ∀ us s', Inv C.X pins σ H' s' → Vals vs us → Q us s') I ⟨env, W, st, rfl, R, o.imp fun d st' h v W' e k r u s' I' ru => h v u s' W' e k r I' ru⟩) fun u s' ⟨v, H', I', r, q⟩ => q u s' I' r
/-- a fresh thing, frozen at once -/
theorem SE.froz (h : SE C .fresh e m) : SE C .froz e m := SE.mk fun pins s σ env W st Q I R o => by
  refine h.go I R (o.imp fun d st' hq v u s' W' e1 k1 r1 I1 ru => ?_)
  obtain ⟨a, ev, n0, ng, na, t⟩ := r1
  subst ev
  exact ⟨.ref a, (W'.frz a).H, I1, ru, hq (.ref a) (W'.frz a) (frz_ext e1 n0 ng) (frz_ok k1 ng na) (frz_rp ng t)⟩
theorem SE.bor (h : SE C κ e m) : SE C .bor e m := SE.mk fun pins s σ env W st Q I R o => by
  refine h.go I R (o.imp fun d st' hq v u s' W' e1 k1 r1 I1 ru => ⟨v, W'.H, I1, ru, hq v W' e1 k1 r1.bor⟩)
end
end Sm


set_option Elab.async false
set_option linter.all false
set_option maxRecDepth 100000
set_option maxHeartbeats 1000000
/-! Sm2: expressions: names, constants, operators, tests, displays, subscripts. -/
namespace Sm
open PySem PySem.Spec L2

/-! ### new objects -/
section
variable {K : PySem.W.Frag} {mg : Str → Option Value} {W W1 W' : Wd} {st : Store}
theorem Wd.Ok.there (k : W.Ok K mg st) {a : Addr} (h : a ∈ W.as) : W.H a ≠ none := by
  obtain ⟨i, hi, e⟩ := List.mem_iff_getElem.mp h
  have h2 : i < st.length := by rw [← k.len]; exact hi
  obtain ⟨c, vs, h3, h4, _⟩ := k.cel i st[i] (List.getElem?_eq_getElem h2)
  have : c = a := by
    rw [List.getElem?_eq_getElem hi, e] at h3
    exact (Option.some.inj h3).symm
  rw [← this, h4]
  intro z; cases z
def Wd.new (W : Wd) (p : Addr) (o : HO) : Wd := { W with H := upd W.H p o }
theorem new_at {p b : Addr} {o u : HO} (n : W.H p = none) (h : W.H b = some u) : (W.new p o).H b = some u := by
  show upd W.H p o b = some u
  rw [upd_ne (ne_of_none h n)]; exact h
theorem new_ext {p : Addr} {o : HO} (n : W.H p = none) : Ext W (W.new p o) := by
  refine ⟨fun _ _ h => h, fun _ h q => absurd h q, ⟨[], by show W.as = W.as ++ []; simp⟩, fun _ h => .inl h, fun a u h _ => new_at n h, fun a h => ?_⟩
  have h' : upd W.H p o a = none := h
  by_cases q : a = p
  · rw [q]; exact n
  · rw [upd_ne q] at h'; exact h'
theorem new_ok {p : Addr} {o : HO} (k : W.Ok K mg st) (n : W.H p = none) : (W.new p o).Ok K mg st := by
  refine ⟨fun a u h => new_at n (k.sub a u h), k.nod, k.dis, k.len, fun i ds h => ?_⟩
  obtain ⟨a, vs, h1, h2, h3⟩ := k.cel i ds h
  exact ⟨a, vs, h1, new_at n h2, h3⟩
theorem new_g {p : Addr} {o : HO} (k : W.Ok K mg st) (n : W.H p = none) : (W.new p o).G p = none := by
  show W.G p = none
  cases q : W.G p with
  | none => rfl
  | some u => rw [k.sub p u q] at n; cases n
theorem new_as {p : Addr} {o : HO} (k : W.Ok K mg st) (n : W.H p = none) : p ∉ (W.new p o).as := fun h => k.there h n
theorem new_lst {p : Addr} {vs : List V} {ds : List D} (k : W.Ok K mg st) (n : W.H p = none) (r : RpL K mg W.as W.G ds vs) : Fresh K mg W (W.new p (.lst vs)) (.lst ds) (.ref p) :=
  ⟨p, rfl, n, new_g k n, new_as k n, vs, upd_same, r⟩
/-- a new tuple, frozen at once -/
def Wd.newT (W : Wd) (p : Addr) (o : Obj) (xs : List V) : Wd := (W.new p (.frz o (.tup xs))).frz p
theorem newT_ext {p : Addr} {o : Obj} {xs : List V} (k : W.Ok K mg st) (n : W.H p = none) : Ext W (W.newT p o xs) := frz_ext (new_ext n) n (new_g k n)
theorem newT_ok {p : Addr} {o : Obj} {xs : List V} (k : W.Ok K mg st) (n : W.H p = none) : (W.newT p o xs).Ok K mg st := frz_ok (new_ok k n) (new_g k n) (new_as k n)
theorem newT_rp {p : Addr} {o : Obj} {xs : List V} {ds : List D} (k : W.Ok K mg st) (n : W.H p = none) (hd : o.dict = none) (r : RpL K mg W.as W.G ds xs) : Rp K mg (W.newT p o xs).as (W.newT p o xs).G (.tup ds) (.ref p) := by
  simp only [Rp]
  have e : (W.newT p o xs).G p = some (.frz o (.tup xs)) := by
    show (if p = p then upd W.H p (.frz o (.tup xs)) p else W.G p) = _
    rw [if_pos rfl]; exact upd_same
  exact ⟨p, xs, rfl, .inl (.inr ⟨o, e⟩), .inl ⟨o, _, e, hd⟩, RpL.up (fun _ _ h => h) (frz_g (new_g k n)) ds xs r⟩
/-- the object of a new tuple -/
def tupO (its : List Value) : Obj := { cls := .type "tuple", data := .seq its.toArray }
/-- a new tuple of xs -/
def QT (Q : VK) (H : Hp) (xs : List V) : Prop := ∀ p o, H p = none → o.dict = none → Q (.ref p) (upd H p (.frz o (.tup xs)))
theorem newTup {X : Cx} {pins : List (Addr × Obj)} {σ : L2.St} {H : Hp} {s : Shared} {xs : List V} {its : List Value} {Q : VK} {t : Nat} (I : Inv X pins σ H s) (r : Vals xs its) (hz : xs.length ≤ sizeLine) (q : QT Q H xs) :
    EP X pins σ Q (.ref s.heap.objs.size) { s with heap := s.heap.push (tupO its), toks := t } := by
  refine ⟨.ref s.heap.objs.size, _, I.laid (t' := t) (o := .frz (tupO its) (.tup xs)) (fun b ob q => Heap.get?_push_of_some _ q) (Nat.le_refl _) ?_, rfl, q _ (tupO its) (I.hok.fresh (Nat.le_refl _)) rfl⟩
  exact ⟨Heap.get?_push_size _ rfl, hz, its, r, ⟨_, Heap.get?_push_size _ rfl, rfl, _, rfl⟩⟩
/-- t + u -/
def rCatF (K : PySem.W.Frag) : R2 := fun x y H Q => ∃ a b xs ys, x = .ref a ∧ y = .ref b ∧ SqT K H a xs ∧ SqT K H b ys ∧ xs.length + ys.length ≤ sizeLine ∧
  (xs = [] → Q (.ref b) H) ∧ (ys = [] → Q (.ref a) H) ∧ QT Q H (xs ++ ys)
theorem op_catF {X : Cx} : OpR X (binaryOp .Add) (rCatF X.K) := by
  intro pins s σ H x y v u Q I rx ry h
  obtain ⟨a, b, xs, ys, rfl, rfl, ha, hb, hz, q0, q1, q2⟩ := h
  cases rx
  cases ry
  obtain ⟨its, r1, p1, _⟩ := I.tuple ha
  obtain ⟨its2, r2, p2, _⟩ := I.tuple hb
  by_cases hx : xs = []
  · subst hx
    cases r1
    exact cat_tup0 p1 p2 ⟨.ref b, H, I, rfl, q0 rfl⟩
  · refine HT.cat_tup p1 p2 (fun z => hx (by subst z; cases r1; rfl)) (fun z => ⟨.ref a, H, I, rfl, q1 (by subst z; cases r2; rfl)⟩) (fun z => ?_) (by rw [← r1.length, ← r2.length]; exact hz)
    exact newTup (t := s.toks) I (r1.append r2) (by rw [List.length_append]; exact hz) q2
/-- t[lo:hi] -/
def rSlF (K : PySem.W.Frag) : V → Option Int → Option Int → Hp → VK → Prop := fun x lo hi H Q => ∃ a xs, x = .ref a ∧ SqT K H a xs ∧
  (HT.sIx xs.length 0 lo = 0 ∧ HT.sIx xs.length xs.length hi = xs.length → Q (.ref a) H) ∧ QT Q H (cutV xs lo hi)
theorem sl_tupF {X : Cx} : SlR X (rSlF X.K) := by
  intro pins s σ H x v vl vu lo hi sl Q I rx hs pl pu h
  obtain ⟨a, xs, rfl, hx, q1, q2⟩ := h
  cases rx
  obtain ⟨its, r, ht, hz⟩ := I.tuple hx
  have hlen : its.toArray.size = xs.length := by rw [List.size_toArray]; exact r.length.symm
  refine ⟨"tuple", _, PyProof.Rows.slot_tuple_getitem.lookup, ht.typeIs, ?_⟩
  by_cases hw : HT.sIx xs.length 0 lo = 0 ∧ HT.sIx xs.length xs.length hi = xs.length
  · exact getItem_tuple_whole ht hs pl pu (by rw [hlen]; exact hw) ⟨.ref a, H, I, rfl, q1 hw⟩
  · refine HT.getItem_tuple_cut ht hs pl pu (by rw [hlen]; exact hw) ?_ (by rw [hlen]; exact hz)
    rw [hlen]
    exact newTup (t := s.toks) (its := (its.drop (HT.sIx xs.length 0 lo)).take (HT.sIx xs.length xs.length hi - HT.sIx xs.length 0 lo)) I
      ((r.drop (HT.sIx xs.length 0 lo)).take (HT.sIx xs.length xs.length hi - HT.sIx xs.length 0 lo)) (Nat.le_trans (cutV_length xs lo hi) hz) q2
/-- (a, b, ..) -/
def tTupF (t : TA) : TE := fun σ H Q => t σ H fun xs H1 => xs.length ≤ sizeLine ∧ QT Q H1 xs
theorem pe_tupF {X : Cx} {es : List Expr} {t : TA} {pos : Pos} {x1} (h : PA X es t) : PE X (.Tuple es x1 pos) (tTupF t) := by
  refine ⟨fun pins s σ H Q I hq => ?_⟩
  refine wpAny_Tuple_spliced (thn (h.run pos pins s σ H _ I hq) fun us s1 ⟨xs, H1, I1, r, z, q⟩ => ⟨by rw [← r.length]; exact z, ?_⟩)
  exact newTup (t := s1.toks) I1 r z q
/-- what may be read of what is borrowed -/
theorem Bor.lst {ds : List D} {v : V} (k : W.Ok K mg st) (h : Bor K mg W (.lst ds) v) : ∃ a vs, v = .ref a ∧ W.H a = some (.lst vs) ∧ RpL K mg W.as W.G ds vs := by
  rcases h with h | ⟨a, ev, _, vs, h1, h2⟩
  · simp only [Rp] at h
    obtain ⟨a, vs, ev, s, l⟩ := h
    exact ⟨a, vs, ev, k.sub _ _ s, l⟩
  · exact ⟨a, vs, ev, h1, h2⟩
theorem Bor.scr {ds : List D} {v : V} (k : W.Ok K mg st) (h : Bor K mg W (.scr ds) v) : ∃ a vs, v = .ref a ∧ SqL K W.H a vs ∧ RpL K mg W.as W.G ds vs := by
  rcases h with h | ⟨a, ev, _, h1⟩
  · simp only [Rp] at h
    obtain ⟨a, vs, ev, s, l⟩ := h
    exact ⟨a, vs, ev, SqL.up k.sub s, l⟩
  · exact h1.elim
theorem Bor.tup {ds : List D} {v : V} (k : W.Ok K mg st) (h : Bor K mg W (.tup ds) v) : ∃ a vs, v = .ref a ∧ SqT K W.H a vs ∧ RpL K mg W.as W.G ds vs := by
  rcases h with h | ⟨a, ev, _, h1⟩
  · simp only [Rp] at h
    obtain ⟨a, vs, ev, s, _, l⟩ := h
    exact ⟨a, vs, ev, SqT.up k.sub s, l⟩
  · exact h1.elim
theorem Bor.int {i : Int} {v : V} (h : Bor K mg W (.int i) v) : v = .int i := by
  rcases h with h | ⟨a, ev, _, h1⟩
  · simpa only [Rp] using h
  · exact h1.elim
theorem Bor.bl {i : Bool} {v : V} (h : Bor K mg W (.bl i) v) : v = .bl i := by
  rcases h with h | ⟨a, ev, _, h1⟩
  · simpa only [Rp] using h
  · exact h1.elim
theorem Bor.str {i : Str} {v : V} (h : Bor K mg W (.str i) v) : v = .str i := by
  rcases h with h | ⟨a, ev, _, h1⟩
  · simpa only [Rp] using h
  · exact h1.elim
theorem Bor.non {v : V} (h : Bor K mg W .non v) : v = .non := by
  rcases h with h | ⟨a, ev, _, h1⟩
  · simpa only [Rp] using h
  · exact h1.elim
theorem Bor.obj {i : Nat} {v : V} (h : Bor K mg W (.obj i) v) : ∃ a, v = .ref a ∧ W.as[i]? = some a := by
  rcases h with h | ⟨a, ev, _, h1⟩
  · simpa only [Rp] using h
  · exact h1.elim
theorem RpL.get {as : List Addr} {G : Hp} : ∀ {ds : List D} {vs : List V} {i : Nat} {v : V}, RpL K mg as G ds vs → vs[i]? = some v → ∃ d, ds[i]? = some d ∧ Rp K mg as G d v
  | [], vs, i, v, h, e => by simp only [RpL] at h; subst h; simp at e
  | d :: ds, vs, 0, v, h, e => by
    simp only [RpL] at h
    obtain ⟨w, r, e1, h1, _⟩ := h
    subst e1
    simp at e; subst e
    exact ⟨d, rfl, h1⟩
  | d :: ds, vs, i + 1, v, h, e => by
    simp only [RpL] at h
    obtain ⟨w, r, e1, _, h2⟩ := h
    subst e1
    obtain ⟨x, e2, q⟩ := RpL.get (i := i) h2 (by simpa using e)
    exact ⟨x, by simpa using e2, q⟩
theorem RpL.get' {as : List Addr} {G : Hp} : ∀ {ds : List D} {vs : List V} {i : Nat} {d : D}, RpL K mg as G ds vs → ds[i]? = some d → ∃ v, vs[i]? = some v ∧ Rp K mg as G d v
  | [], vs, i, v, h, e => by simp at e
  | d :: ds, vs, 0, v, h, e => by
    simp only [RpL] at h
    obtain ⟨w, r, e1, h1, _⟩ := h
    subst e1
    simp at e; subst e
    exact ⟨w, rfl, h1⟩
  | d :: ds, vs, i + 1, v, h, e => by
    simp only [RpL] at h
    obtain ⟨w, r, e1, _, h2⟩ := h
    subst e1
    obtain ⟨x, e2, q⟩ := RpL.get' (i := i) h2 (by simpa using e)
    exact ⟨x, by simpa using e2, q⟩
theorem RpL.app {as : List Addr} {G : Hp} : ∀ {ds es : List D} {vs us : List V}, RpL K mg as G ds vs → RpL K mg as G es us → RpL K mg as G (ds ++ es) (vs ++ us)
  | [], es, vs, us, h, g => by simp only [RpL] at h; subst h; exact g
  | d :: ds, es, vs, us, h, g => by
    simp only [RpL] at h
    obtain ⟨w, r, e1, h1, h2⟩ := h
    subst e1
    show RpL K mg as G (d :: (ds ++ es)) (w :: (r ++ us))
    simp only [RpL]
    exact ⟨w, _, rfl, h1, RpL.app h2 g⟩
theorem RpL.take {as : List Addr} {G : Hp} : ∀ {ds : List D} {vs : List V} (n : Nat), RpL K mg as G ds vs → RpL K mg as G (ds.take n) (vs.take n)
  | [], vs, n, h => by simp only [RpL] at h; subst h; simp [RpL]
  | d :: ds, vs, 0, h => by simp [RpL]
  | d :: ds, vs, n + 1, h => by
    simp only [RpL] at h
    obtain ⟨w, r, e1, h1, h2⟩ := h
    subst e1
    simp only [List.take_succ_cons, RpL]
    exact ⟨w, _, rfl, h1, RpL.take n h2⟩
theorem RpL.drop {as : List Addr} {G : Hp} : ∀ {ds : List D} {vs : List V} (n : Nat), RpL K mg as G ds vs → RpL K mg as G (ds.drop n) (vs.drop n)
  | [], vs, n, h => by simp only [RpL] at h; subst h; simp [RpL]
  | d :: ds, vs, 0, h => by simpa using h
  | d :: ds, vs, n + 1, h => by
    simp only [RpL] at h
    obtain ⟨w, r, e1, h1, h2⟩ := h
    subst e1
    simpa using RpL.drop n h2
theorem RpL.ints {as : List Addr} {G : Hp} : ∀ {ds : List D} {ns : List Int} {vs : List V}, RpL K mg as G (ns.map D.int) vs → vs = ns.map V.int
  | _, [], vs, h => by simpa [RpL] using h
  | _, n :: ns, vs, h => by
    simp only [List.map_cons, RpL] at h
    obtain ⟨w, r, e1, h1, h2⟩ := h
    simp only [Rp] at h1
    rw [e1, h1, RpL.ints (ds := []) h2, List.map_cons]
theorem RpL.bls {as : List Addr} {G : Hp} : ∀ {ns : List Bool} {vs : List V}, RpL K mg as G (ns.map D.bl) vs → vs = ns.map V.bl
  | [], vs, h => by simpa [RpL] using h
  | n :: ns, vs, h => by
    simp only [List.map_cons, RpL] at h
    obtain ⟨w, r, e1, h1, h2⟩ := h
    simp only [Rp] at h1
    rw [e1, h1, RpL.bls h2, List.map_cons]
theorem RpL.strs {as : List Addr} {G : Hp} : ∀ {ns : List Str} {vs : List V}, RpL K mg as G (ns.map D.str) vs → vs = ns.map V.str
  | [], vs, h => by simpa [RpL] using h
  | n :: ns, vs, h => by
    simp only [List.map_cons, RpL] at h
    obtain ⟨w, r, e1, h1, h2⟩ := h
    simp only [Rp] at h1
    rw [e1, h1, RpL.strs h2, List.map_cons]
theorem RpL.nil_iff {as : List Addr} {G : Hp} {ds : List D} {vs : List V} (h : RpL K mg as G ds vs) : vs = [] ↔ ds = [] := by
  have := h.len
  cases ds <;> cases vs <;> simp_all
end

/-! ### names, constants -/
@[simp] def frozen : Option (Bool × D) → Option D
  | some (false, d) => some d
  | _ => none
@[simp] def eVar (i : Nat) : Ex := fun env => lift (frozen (env i))
@[simp] def eVarB (i : Nat) : Ex := fun env => lift ((env i).map Prod.snd)
@[simp] def eC (d : D) : Ex := fun _ => ret d
section
variable {C : Cn}
theorem se_var {i : Nat} {x : Str} {pos : Pos} (hN : C.X.N[i]? = some x) (hv : Vis C.X.env.scope x) (hd : (x == ("__debug__" : Str)) = false := by decide) (hcd : (x == ("__classdict__" : Str)) = false := by decide) : SE C .froz (.Name x pos) (eVar i) :=
  SE.mk fun pins s σ env W st Q I R o => by
    have o' : Out C σ W (lift (frozen (env i)) st) _ := o
    cases q : env i with
    | none => rw [q] at o'; exact False.elim o'
    | some d =>
      obtain ⟨b, d⟩ := d
      rw [q] at o'
      cases b with
      | true => exact False.elim o'
      | false =>
        obtain ⟨v, h1, h2⟩ := R.slot i _ d q
        rw [if_neg Bool.false_ne_true] at h2
        exact (pe_var (X := C.X) hN hv hd hcd).run pins s σ W.H Q I ⟨v, h1, o' v W (.refl W) R.ok h2⟩
/-- a name, looked at alone -/
theorem se_varB {i : Nat} {x : Str} {pos : Pos} (hN : C.X.N[i]? = some x) (hv : Vis C.X.env.scope x) (hd : (x == ("__debug__" : Str)) = false := by decide) (hcd : (x == ("__classdict__" : Str)) = false := by decide) : SE C .bor (.Name x pos) (eVarB i) :=
  SE.mk fun pins s σ env W st Q I R o => by
    have o' : Out C σ W (lift ((env i).map Prod.snd) st) _ := o
    cases q : env i with
    | none => rw [q] at o'; exact False.elim o'
    | some d =>
      obtain ⟨b, d⟩ := d
      rw [q] at o'
      obtain ⟨v, h1, h2⟩ := R.slot i b d q
      refine (pe_var (X := C.X) hN hv hd hcd).run pins s σ W.H Q I ⟨v, h1, o' v W (.refl W) R.ok ?_⟩
      by_cases z : b = true
      · rw [if_pos z] at h2; exact h2.bor
      · rw [if_neg z] at h2; exact .inl h2
theorem se_C {e : Expr} {d : D} {v : V} (h : PE C.X e (tC v)) (r : ∀ W : Wd, C.rp W d v) : SE C .froz e (eC d) :=
  SE.mk fun pins s σ env W st Q I R o => h.run pins s σ W.H Q I ((show (∀ v W', Ext W W' → C.ok W' st → C.rk .froz W W' d v → Q v W'.H) from o) v W (.refl W) R.ok (r W))
theorem se_int {i j pos} : SE C .froz (.Constant (.int i) j pos) (eC (.int i)) := se_C pe_int fun _ => by simp [Rp]
theorem se_bl {i j pos} : SE C .froz (.Constant (.bool i) j pos) (eC (.bl i)) := se_C pe_bl fun _ => by simp [Rp]
theorem se_non {j pos} : SE C .froz (.Constant .none j pos) (eC .non) := se_C pe_non fun _ => by simp [Rp]
theorem se_str {i j pos} : SE C .froz (.Constant (.str i) j pos) (eC (.str i)) := se_C pe_str fun _ => by simp [Rp]
theorem se_gint {x : Str} {i : Int} {pos : Pos} (hm : ∃ t, C.X.mg x = some (.int i t)) (hg : Gl C.X x := by rfl) (hd : (x == ("__debug__" : Str)) = false := by decide) : SE C .froz (.Name x pos) (eC (.int i)) :=
  let ⟨t, e⟩ := hm; se_C (pe_glob hg e (show RelV (.int i) _ from ⟨t, rfl⟩) hd) fun _ => by simp [Rp]
theorem se_gstr {x z : Str} {pos : Pos} (hm : ∃ t, C.X.mg x = some (.str z t)) (hg : Gl C.X x := by rfl) (hd : (x == ("__debug__" : Str)) = false := by decide) : SE C .froz (.Name x pos) (eC (.str z)) :=
  let ⟨t, e⟩ := hm; se_C (pe_glob hg e (show RelV (.str z) _ from ⟨t, rfl⟩) hd) fun _ => by simp [Rp]
theorem se_glo {x : Str} {f : Addr} {pos : Pos} (hm : C.X.mg x = some (.ref f)) (hg : Gl C.X x := by rfl) (hd : (x == ("__debug__" : Str)) = false := by decide) : SE C .froz (.Name x pos) (eC (.glo x)) :=
  se_C (pe_glob hg hm (show RelV (.ref f) _ from rfl) hd) fun _ => by simp only [Rp]; exact ⟨f, rfl, hm⟩
/-- an object of the module, of constants -/
theorem se_gobj {x : Str} {f : Addr} {d : D} {pos : Pos} (hm : C.X.mg x = some (.ref f)) (r : ∀ W : Wd, C.rp W d (.ref f)) (hg : Gl C.X x := by rfl) (hd : (x == ("__debug__" : Str)) = false := by decide) : SE C .froz (.Name x pos) (eC d) :=
  se_C (pe_glob hg hm (show RelV (.ref f) _ from rfl) hd) r
end

/-! ### operators -/
/-- an operation on two values -/
def SOp (C : Cn) (κ : Kd) (f : Value → Value → Sem Value) (g : D → D → M D) : Prop :=
  ∀ (pins : List (Addr × Obj)) (s : Shared) (σ : L2.St) (W : Wd) (st : Store) (d1 d2 : D) (x y : V) (u v : Value) (Q : VK), Inv C.X pins σ W.H s → C.ok W st → Bor C.X.K C.X.mg W d1 x → Bor C.X.K C.X.mg W d2 y → RelV x u → RelV y v →
    (Out C σ W (g d1 d2 st) fun d st' => ∀ z W', Ext W W' → C.ok W' st' → C.rk κ W W' d z → Q z W'.H) → wpAny (model C.X.prog C.X.w) C.X.A (f u v) (EP C.X pins σ Q) C.X.xe s
@[simp] def eBin (g : D → D → M D) (a b : Ex) : Ex := fun env => bnd (a env) fun x => bnd (b env) fun y => g x y
@[simp] def pur (g : D → D → Option D) : D → D → M D := fun a b => lift (g a b)
section
variable {C : Cn} {κ κa κb : Kd} {a b c e : Expr} {ma mb mc : Ex} {pos : Pos} {g : D → D → M D}
theorem bin_go {pins : List (Addr × Obj)} {s : Shared} {σ : L2.St} {env : En} {W : Wd} {st : Store} {f : Value → Value → Sem Value} {Q : VK} (ho : SOp C κ f g) (ha : SE C κa a ma) (hb : SE C κb b mb) (I : Inv C.X pins σ W.H s) (R : SR C env W st σ)
    (o : Out C σ W (eBin g ma mb env st) fun d st' => ∀ z W', Ext W W' → C.ok W' st' → C.rk κ W W' d z → Q z W'.H) :
    wpAny (model C.X.prog C.X.w) C.X.A (eval a C.X.env) (fun v s₁ => wpAny (model C.X.prog C.X.w) C.X.A (eval b C.X.env) (fun u s₂ => wpAny (model C.X.prog C.X.w) C.X.A (f v u) (EP C.X pins σ Q) C.X.xe s₂) C.X.xe s₁) C.X.xe s := by
  refine ha.go I R (Out.bnd o |>.imp fun d1 st1 o1 x u s1 W1 e1 k1 r1 I1 ru => ?_)
  refine hb.go I1 (R.up e1 k1) (Out.bnd (o1.up e1) |>.imp fun d2 st2 o2 y v s2 W2 e2 k2 r2 I2 rv => ?_)
  exact ho pins s2 σ W2 st2 d1 d2 x y u v Q I2 k2 (r1.bor.ext e2) r2.bor ru rv ((o2.up e2).imp fun d st' hq z W' e3 k3 r3 => hq z W' ((e1.trans e2).trans e3) k3 (r3.down (e1.trans e2)))
theorem se_bin {op : Operator} (ho : SOp C κ (binaryOp op) g) (ha : SE C κa a ma) (hb : SE C κb b mb) : SE C κ (.BinOp a op b pos) (eBin g ma mb) :=
  SE.mk fun pins s σ env W st Q I R o => wpAny_BinOp (bin_go ho ha hb I R o)
theorem se_cmp {op : CmpOp} (ho : SOp C κ (compareOp op) g) (ha : SE C κa a ma) (hb : SE C κb b mb) (hm : behindInMarks op b = false) : SE C κ (.Compare a [op] [b] pos) (eBin g ma mb) :=
  SE.mk fun pins s σ env W st Q I R o => wpAny_Compare1 (bin_go ho ha hb I R o) hm
end

/-! ### the operators -/
abbrev line : Nat := 16777216
def small (i : Int) : Bool := decide (-(2 ^ 64) < i ∧ i < 2 ^ 64)
def mulOk (i j : Int) : Bool := small i || small j || decide (i.natAbs.log2 + j.natAbs.log2 < 1000000)
def addD : D → D → Option D
  | .int a, .int b => some (.int (a + b))
  | .str a, .str b => if a.length + b.length ≤ line then some (.str (a ++ b)) else none
  | .tup a, .tup b => if a.length + b.length ≤ line then some (.tup (a ++ b)) else none
  | _, _ => none
def addL : D → D → Option D
  | .lst a, .lst b => if a.length + b.length ≤ line then some (.lst (a ++ b)) else none
  | _, _ => none
def subD : D → D → Option D
  | .int a, .int b => some (.int (a - b))
  | _, _ => none
def mulD : D → D → Option D
  | .int a, .int b => if mulOk a b then some (.int (a * b)) else none
  | _, _ => none
/-- a list times a number -/
def mulL : D → D → Option D
  | .lst a, .int b => if -(2 ^ 63) ≤ b ∧ b < 2 ^ 63 ∧ a.length * b.toNat ≤ line then some (.lst (List.replicate b.toNat a).flatten) else none
  | _, _ => none
def modD : D → D → Option D
  | .int a, .int b => if b = 0 then none else some (.int (a.fmod b))
  | _, _ => none
/-- a positive divisor, or a small one -/
def fdivD : D → D → Option D
  | .int a, .int b => if 0 < b ∧ b.natAbs.log2 < 9000 ∨ (b ≠ 0 ∧ b.natAbs < 1073741824) then some (.int (a.fdiv b)) else none
  | _, _ => none
def powD : D → D → Option D
  | .int a, .int b => if 0 ≤ b ∧ b ≤ 1000000 ∧ a.natAbs < 2 ^ 64 then some (.int (a ^ b.toNat)) else none
  | _, _ => none
theorem line_eq : line = sizeLine := sizeLine_eq.symm
section
variable {C : Cn}
theorem Out.get {α : Type} {a : α} {σ : L2.St} {W : Wd} {st : Store} {k : α → Store → Prop} (o : Out C σ W (lift (some a) st) k) : k a st := o
theorem rp_int {W : Wd} {i : Int} : C.rk .froz W W (.int i) (.int i) := by simp [Cn.rk, RK, Rp]
theorem rk_int {W W' : Wd} {i : Int} : C.rk .froz W W' (.int i) (.int i) := by simp [Cn.rk, RK, Rp]
theorem rk_bl {W W' : Wd} {i : Bool} : C.rk .froz W W' (.bl i) (.bl i) := by simp [Cn.rk, RK, Rp]
theorem rk_str {W W' : Wd} {i : Str} : C.rk .froz W W' (.str i) (.str i) := by simp [Cn.rk, RK, Rp]
theorem rk_non {W W' : Wd} : C.rk .froz W W' .non .non := by simp [Cn.rk, RK, Rp]
/-- an operation of two ints -/
theorem sop_int {f : Value → Value → Sem Value} {c : Int → Int → Bool} {g : Int → Int → Int} (h : OpR C.X f (rI (fun i j => c i j = true) fun i j => .int (g i j))) :
    SOp C .froz f (pur fun x y => match x, y with | .int a, .int b => if c a b then some (.int (g a b)) else none | _, _ => none) := by
  intro pins s σ W st d1 d2 x y u v Q I k b1 b2 ru rv o
  cases d1 with
  | int a =>
    cases d2 with
    | int b =>
      have e1 := b1.int
      have e2 := b2.int
      subst e1 e2
      have o' : Out C σ W (lift (if c a b = true then some (D.int (g a b)) else none) st) _ := o
      by_cases z : c a b = true
      · rw [if_pos z] at o'
        exact h pins s σ W.H _ _ u v Q I ru rv ⟨a, b, rfl, rfl, z, o' (.int (g a b)) W (.refl W) k rk_int⟩
      · rw [if_neg z] at o'; exact False.elim o'
    | _ => exact (show False from o).elim
  | _ => exact (show False from o).elim
theorem OpR.weak {X : Cx} {f : Value → Value → Sem Value} {r r' : R2} (h : OpR X f r) (q : ∀ x y H Q, r' x y H Q → r x y H Q) : OpR X f r' := fun pins s σ H x y v u Q I rx ry z => h pins s σ H x y v u Q I rx ry (q x y H Q z)
theorem sop_ext {κ : Kd} {f : Value → Value → Sem Value} {g g' : D → D → M D} (h : SOp C κ f g) (e : ∀ x y, g' x y = g x y) : SOp C κ f g' := by
  intro pins s σ W st d1 d2 x y u v Q I k b1 b2 ru rv o
  rw [e] at o
  exact h pins s σ W st d1 d2 x y u v Q I k b1 b2 ru rv o
theorem sop_sub : SOp C .froz (binaryOp .Sub) (pur subD) := sop_ext (sop_int (c := fun _ _ => true) (OpR.weak op_sub fun x y H Q ⟨i, j, h1, h2, _, h3⟩ => ⟨i, j, h1, h2, h3⟩)) fun x y => by
  unfold pur subD
  cases x <;> cases y <;> simp
theorem sop_mul : SOp C .froz (binaryOp .Mult) (pur mulD) := sop_ext (sop_int (c := mulOk) (g := fun i j => i * j) (fun pins s σ H x y v u Q I rx ry ⟨i, j, h1, h2, h3, h4⟩ => by
  unfold mulOk small at h3
  simp only [Bool.or_eq_true, decide_eq_true_eq] at h3
  rcases h3 with h3 | h3
  · exact op_mul pins s σ H x y v u Q I rx ry ⟨i, j, h1, h2, h3, h4⟩
  · exact op_mulW pins s σ H x y v u Q I rx ry ⟨i, j, h1, h2, h3, h4⟩)) fun x y => by
  unfold pur mulD
  cases x <;> cases y <;> rfl
theorem sop_mod : SOp C .froz (binaryOp .Mod) (pur modD) := sop_ext (sop_int (c := fun _ j => decide (j ≠ 0)) (g := fun i j => i.fmod j) (OpR.weak op_modN fun x y H Q ⟨i, j, h1, h2, h3, h4⟩ => ⟨i, j, h1, h2, of_decide_eq_true h3, h4⟩)) fun x y => by
  unfold pur modD
  cases x <;> cases y <;> simp
theorem sop_fdiv : SOp C .froz (binaryOp .FloorDiv) (pur fdivD) := sop_ext (sop_int (c := fun _ j => decide (0 < j ∧ j.natAbs.log2 < 9000 ∨ (j ≠ 0 ∧ j.natAbs < 1073741824))) (g := fun i j => i.fdiv j) (fun pins s σ H x y v u Q I rx ry ⟨i, j, h1, h2, h3, h4⟩ => by
  rcases of_decide_eq_true h3 with h3 | h3
  · refine op_fdivW pins s σ H x y v u Q I rx ry ⟨i, j, h1, h2, h3, ?_⟩
    show Q (.int (i / j)) H
    have e : i.fdiv j = i / j := Int.fdiv_eq_ediv_of_nonneg i (by omega)
    rw [← e]
    exact h4
  · exact op_fdivN pins s σ H x y v u Q I rx ry ⟨i, j, h1, h2, h3, h4⟩)) fun x y => by
  unfold pur fdivD
  cases x <;> cases y <;> simp
theorem sop_pow : SOp C .froz (binaryOp .Pow) (pur powD) := sop_ext (sop_int (c := fun i j => decide (0 ≤ j ∧ j ≤ 1000000 ∧ i.natAbs < 2 ^ 64)) (g := fun i j => i ^ j.toNat) (OpR.weak op_pow fun x y H Q ⟨i, j, h1, h2, h3, h4⟩ => ⟨i, j, h1, h2, (of_decide_eq_true h3 : 0 ≤ j ∧ j ≤ 1000000 ∧ i.natAbs < 2 ^ 64), h4⟩)) fun x y => by
  unfold pur powD
  cases x <;> cases y <;> simp
theorem sop_add : SOp C .froz (binaryOp .Add) (pur addD) := by
  intro pins s σ W st d1 d2 x y u v Q I k b1 b2 ru rv o
  cases d1 with
  | int a =>
    cases d2 with
    | int b =>
      have e1 := b1.int
      have e2 := b2.int
      subst e1 e2
      exact op_add pins s σ W.H _ _ u v Q I ru rv ⟨a, b, rfl, rfl, Out.get o (.int (a + b)) W (.refl W) k rk_int⟩
    | _ => exact (show False from o).elim
  | str a =>
    cases d2 with
    | str b =>
      have e1 := b1.str
      have e2 := b2.str
      subst e1 e2
      have o' : Out C σ W (lift (if a.length + b.length ≤ line then some (D.str (a ++ b)) else none) st) _ := o
      by_cases z : a.length + b.length ≤ line
      · rw [if_pos z] at o'
        exact op_add_str pins s σ W.H _ _ u v Q I ru rv ⟨a, b, rfl, rfl, by rw [← line_eq]; exact z, o' (.str (a ++ b)) W (.refl W) k rk_str⟩
      · rw [if_neg z] at o'; exact False.elim o'
    | _ => exact (show False from o).elim
  | tup ds =>
    cases d2 with
    | tup es =>
      obtain ⟨a, xs, e1, s1, l1⟩ := b1.tup k
      obtain ⟨b, ys, e2, s2, l2⟩ := b2.tup k
      have o' : Out C σ W (lift (if ds.length + es.length ≤ line then some (D.tup (ds ++ es)) else none) st) _ := o
      by_cases z : ds.length + es.length ≤ line
      · rw [if_pos z] at o'
        have q : ∀ v W', Ext W W' → C.ok W' st → C.rk .froz W W' (.tup (ds ++ es)) v → Q v W'.H := o'
        have f1 : C.rp W (.tup ds) x := by
          rcases b1 with h | ⟨_, _, _, h⟩
          · exact h
          · exact h.elim
        have f2 : C.rp W (.tup es) y := by
          rcases b2 with h | ⟨_, _, _, h⟩
          · exact h
          · exact h.elim
        subst e1 e2
        refine op_catF pins s σ W.H _ _ u v Q I ru rv ⟨a, b, xs, ys, rfl, rfl, s1, s2, by rw [← line_eq, ← l1.len, ← l2.len]; exact z, fun e => ?_, fun e => ?_, fun p o np no => ?_⟩
        · have : ds = [] := l1.nil_iff.mp e
          subst this
          exact q _ W (.refl W) k f2
        · have : es = [] := l2.nil_iff.mp e
          subst this
          refine q _ W (.refl W) k ?_
          rw [List.append_nil]
          exact f1
        · exact q (.ref p) (W.newT p o (xs ++ ys)) (newT_ext k np) (newT_ok k np) (newT_rp k np no (l1.app l2))
      · rw [if_neg z] at o'; exact False.elim o'
    | _ => exact (show False from o).elim
  | _ => exact (show False from o).elim
theorem sop_addL : SOp C .fresh (binaryOp .Add) (pur addL) := by
  intro pins s σ W st d1 d2 x y u v Q I k b1 b2 ru rv o
  cases d1 with
  | lst ds =>
    cases d2 with
    | lst es =>
      obtain ⟨a, xs, e1, s1, l1⟩ := b1.lst k
      obtain ⟨b, ys, e2, s2, l2⟩ := b2.lst k
      have o' : Out C σ W (lift (if ds.length + es.length ≤ line then some (D.lst (ds ++ es)) else none) st) _ := o
      by_cases z : ds.length + es.length ≤ line
      · rw [if_pos z] at o'
        subst e1 e2
        refine op_cat pins s σ W.H _ _ u v Q I ru rv ⟨a, b, xs, ys, rfl, rfl, s1, s2, by rw [← line_eq, ← l1.len, ← l2.len]; exact z, fun p np => ?_⟩
        exact o' (.ref p) (W.new p (.lst (xs ++ ys))) (new_ext np) (new_ok k np) (new_lst k np (l1.app l2))
      · rw [if_neg z] at o'; exact False.elim o'
    | _ => exact (show False from o).elim
  | _ => exact (show False from o).elim
theorem RpL.rep {K : PySem.W.Frag} {mg : Str → Option Value} {as : List Addr} {G : Hp} {ds : List D} {vs : List V} (h : RpL K mg as G ds vs) : ∀ n : Nat, RpL K mg as G (List.replicate n ds).flatten (List.replicate n vs).flatten
  | 0 => by simp [RpL]
  | n + 1 => by
    rw [List.replicate_succ, List.replicate_succ, List.flatten_cons, List.flatten_cons]
    exact h.app (RpL.rep h n)
theorem sop_mulL : SOp C .fresh (binaryOp .Mult) (pur mulL) := by
  intro pins s σ W st d1 d2 x y u v Q I k b1 b2 ru rv o
  cases d1 with
  | lst ds =>
    cases d2 with
    | int n =>
      obtain ⟨a, xs, e1, s1, l1⟩ := b1.lst k
      have e2 := b2.int
      have o' : Out C σ W (lift (if -(2 ^ 63) ≤ n ∧ n < 2 ^ 63 ∧ ds.length * n.toNat ≤ line then some (D.lst (List.replicate n.toNat ds).flatten) else none) st) _ := o
      by_cases z : -(2 ^ 63) ≤ n ∧ n < 2 ^ 63 ∧ ds.length * n.toNat ≤ line
      · rw [if_pos z] at o'
        subst e1 e2
        refine op_rep pins s σ W.H _ _ u v Q I ru rv ⟨a, n, xs, rfl, rfl, s1, z.1, z.2.1, by rw [← line_eq, ← l1.len]; exact z.2.2, fun p np => ?_⟩
        exact o' (.ref p) (W.new p (.lst (List.replicate n.toNat xs).flatten)) (new_ext np) (new_ok k np) (new_lst k np (l1.rep _))
      · rw [if_neg z] at o'; exact False.elim o'
    | _ => exact (show False from o).elim
  | _ => exact (show False from o).elim
end
end Sm


set_option Elab.async false
set_option linter.all false
set_option maxRecDepth 100000
set_option maxHeartbeats 1000000
/-! Sm3: data as the library's PyData; comparisons, membership. -/
namespace Sm
open PySem PySem.Spec L2
mutual
def D.py : D → PyData
  | .non => .none
  | .bl b => .bool b
  | .int i => .int i
  | .str x => .str x
  | .tup xs => .tuple (pyL xs)
  | .lst xs => .list (pyL xs)
  | .dct kvs => .dict (pyK kvs)
  | .obj _ => .none
  | .glo _ => .none
  | .scr _ => .none
def pyL : List D → List PyData
  | [] => []
  | x :: xs => x.py :: pyL xs
def pyK : List (D × D) → List (PyData × PyData)
  | [] => []
  | (k, v) :: r => (k.py, v.py) :: pyK r
end
mutual
/-- data of at most that depth -/
def dat : Nat → D → Bool
  | _, .non => true
  | _, .bl _ => true
  | _, .int _ => true
  | _, .str _ => true
  | n + 1, .tup xs => datL n xs
  | n + 1, .lst xs => datL n xs
  | n + 1, .dct kvs => datK n kvs
  | _, _ => false
def datL : Nat → List D → Bool
  | _, [] => true
  | n, x :: xs => dat n x && datL n xs
def datK : Nat → List (D × D) → Bool
  | _, [] => true
  | n, (k, v) :: r => dat n k && dat n v && datK n r
end
mutual
/-- .. without dicts -/
def shp : Nat → D → Bool
  | _, .non => true
  | _, .bl _ => true
  | _, .int _ => true
  | _, .str _ => true
  | n + 1, .tup xs => shpL n xs
  | n + 1, .lst xs => shpL n xs
  | _, _ => false
def shpL : Nat → List D → Bool
  | _, [] => true
  | n, x :: xs => shp n x && shpL n xs
end
theorem shpL_all (n : Nat) : ∀ xs : List D, shpL n xs = xs.all (shp n)
  | [] => by simp [shpL]
  | x :: xs => by simp [shpL, shpL_all n xs]
theorem datL_all (n : Nat) : ∀ xs : List D, datL n xs = xs.all (dat n)
  | [] => by simp [datL]
  | x :: xs => by simp [datL, datL_all n xs]
theorem pyL_map : ∀ xs : List D, pyL xs = xs.map D.py
  | [] => rfl
  | x :: xs => by simp [pyL, pyL_map xs]
mutual
theorem dat_of_shp : ∀ (n : Nat) (d : D), shp n d = true → dat n d = true
  | _, .non, _ => by simp [dat]
  | _, .bl _, _ => by simp [dat]
  | _, .int _, _ => by simp [dat]
  | _, .str _, _ => by simp [dat]
  | 0, .tup xs, h => by simp [shp] at h
  | 0, .lst xs, h => by simp [shp] at h
  | n + 1, .tup xs, h => by
    simp only [shp] at h
    simp only [dat]
    exact datL_of_shp n xs h
  | n + 1, .lst xs, h => by
    simp only [shp] at h
    simp only [dat]
    exact datL_of_shp n xs h
  | n, .dct kvs, h => by simp [shp] at h
  | n, .obj _, h => by simp [shp] at h
  | n, .glo _, h => by simp [shp] at h
  | n, .scr _, h => by simp [shp] at h
theorem datL_of_shp : ∀ (n : Nat) (ds : List D), shpL n ds = true → datL n ds = true
  | _, [], _ => by simp [datL]
  | n, d :: ds, h => by
    simp only [shpL, Bool.and_eq_true] at h
    simp only [datL, Bool.and_eq_true]
    exact ⟨dat_of_shp n d h.1, datL_of_shp n ds h.2⟩
end
mutual
theorem plain_of_shp : ∀ (n : Nat) (d : D), shp n d = true → d.py.plain = true
  | _, .non, _ => by simp [D.py, PyData.plain]
  | _, .bl _, _ => by simp [D.py, PyData.plain]
  | _, .int _, _ => by simp [D.py, PyData.plain]
  | _, .str _, _ => by simp [D.py, PyData.plain]
  | 0, .tup xs, h => by simp [shp] at h
  | 0, .lst xs, h => by simp [shp] at h
  | n + 1, .tup xs, h => by
    simp only [shp] at h
    simp only [D.py, PyData.plain]
    exact plainAll_of_shp n xs h
  | n + 1, .lst xs, h => by
    simp only [shp] at h
    simp only [D.py, PyData.plain]
    exact plainAll_of_shp n xs h
  | n, .dct kvs, h => by simp [shp] at h
  | n, .obj _, h => by simp [shp] at h
  | n, .glo _, h => by simp [shp] at h
  | n, .scr _, h => by simp [shp] at h
theorem plainAll_of_shp : ∀ (n : Nat) (ds : List D), shpL n ds = true → PyData.plainAll (pyL ds) = true
  | _, [], _ => by simp [pyL, PyData.plainAll]
  | n, d :: ds, h => by
    simp only [shpL, Bool.and_eq_true] at h
    simp only [pyL, PyData.plainAll, Bool.and_eq_true]
    exact ⟨plain_of_shp n d h.1, plainAll_of_shp n ds h.2⟩
end
mutual
theorem depth_of_dat : ∀ (n : Nat) (d : D), dat n d = true → d.py.depth ≤ n
  | _, .non, _ => by simp [D.py, PyData.depth]
  | _, .bl _, _ => by simp [D.py, PyData.depth]
  | _, .int _, _ => by simp [D.py, PyData.depth]
  | _, .str _, _ => by simp [D.py, PyData.depth]
  | 0, .tup xs, h => by simp [dat] at h
  | 0, .lst xs, h => by simp [dat] at h
  | 0, .dct xs, h => by simp [dat] at h
  | n + 1, .tup xs, h => by
    simp only [dat] at h
    simp only [D.py, PyData.depth]
    exact Nat.succ_le_succ (depthL_of_dat n xs h)
  | n + 1, .lst xs, h => by
    simp only [dat] at h
    simp only [D.py, PyData.depth]
    exact Nat.succ_le_succ (depthL_of_dat n xs h)
  | n + 1, .dct xs, h => by
    simp only [dat] at h
    simp only [D.py, PyData.depth]
    exact Nat.succ_le_succ (depthK_of_dat n xs h)
  | n, .obj _, h => by simp [dat] at h
  | n, .glo _, h => by simp [dat] at h
  | n, .scr _, h => by simp [dat] at h
theorem depthL_of_dat : ∀ (n : Nat) (ds : List D), datL n ds = true → PyData.depthAll (pyL ds) ≤ n
  | _, [], _ => by simp [pyL, PyData.depthAll]
  | n, d :: ds, h => by
    simp only [datL, Bool.and_eq_true] at h
    simp only [pyL, PyData.depthAll]
    exact Nat.max_le.mpr ⟨depth_of_dat n d h.1, depthL_of_dat n ds h.2⟩
theorem depthK_of_dat : ∀ (n : Nat) (ds : List (D × D)), datK n ds = true → PyData.depthKv (pyK ds) ≤ n
  | _, [], _ => by simp [pyK, PyData.depthKv]
  | n, (k, d) :: ds, h => by
    simp only [datK, Bool.and_eq_true] at h
    simp only [pyK, PyData.depthKv]
    exact Nat.max_le.mpr ⟨Nat.max_le.mpr ⟨depth_of_dat n k h.1.1, depth_of_dat n d h.1.2⟩, depthK_of_dat n ds h.2⟩
end
/-- what is said of the module's part: sys.modules stands in it -/
def Sysm (K : PySem.W.Frag) : Prop := ∃ o, K.lookup sysModules = some o
section
variable {X : Cx} {pins : List (Addr × Obj)} {σ : L2.St} {H G : Hp} {s : Shared} {as : List Addr}
theorem notSys (I : Inv X pins σ H s) (hs : Sysm X.K) {a : Addr} {o : HO} (h : H a = some o) : a ≠ sysModules := by
  obtain ⟨ob, e⟩ := hs
  intro z
  have := (I.bs sysModules ob (I.mod.kin _ _ e)).2
  rw [← z, h] at this
  cases this
theorem RpL.vals1 {K : PySem.W.Frag} {mg : Str → Option Value} {d : D} {vs : List V} (h : RpL K mg as G [d] vs) : ∃ v, vs = [v] ∧ Rp K mg as G d v := by
  simp only [RpL] at h
  obtain ⟨v, r, e, h1, h2⟩ := h
  subst h2
  exact ⟨v, e, h1⟩
mutual
theorem Rp.reads (I : Inv X pins σ H s) (hs : Sysm X.K) (g : ∀ a o, G a = some o → H a = some o) : ∀ (n : Nat) (d : D) (v : V) (u : Value), dat n d = true → Rp X.K X.mg as G d v → RelV v u → ∃ l, Reads s.heap u d.py l ∧ sysModules ∉ l
  | _, .non, v, u, _, h, r => by
    simp only [Rp] at h; subst h; cases r
    exact ⟨[], by simp only [D.py]; exact .none, by simp⟩
  | _, .bl b, v, u, _, h, r => by
    simp only [Rp] at h; subst h; cases r
    exact ⟨[], by simp only [D.py]; exact .bool _, by simp⟩
  | _, .int b, v, u, _, h, r => by
    simp only [Rp] at h; subst h; obtain ⟨t, rfl⟩ := r
    exact ⟨[], by simp only [D.py]; exact .int _ _, by simp⟩
  | _, .str b, v, u, _, h, r => by
    simp only [Rp] at h; subst h; obtain ⟨t, rfl⟩ := r
    exact ⟨[], by simp only [D.py]; exact .str _ _, by simp⟩
  | 0, .tup xs, v, u, hd, _, _ => by simp [dat] at hd
  | 0, .lst xs, v, u, hd, _, _ => by simp [dat] at hd
  | 0, .dct xs, v, u, hd, _, _ => by simp [dat] at hd
  | n + 1, .tup ds, v, u, hd, h, r => by
    simp only [dat] at hd
    simp only [Rp] at h
    obtain ⟨a, xs, e, sq, _, l⟩ := h
    subst e; cases r
    obtain ⟨its, rv, ⟨o, ho, hc, k, hk⟩, _⟩ := I.tuple (SqT.up g sq)
    obtain ⟨l', h1, h2⟩ := RpL.reads I hs g n ds xs its hd l rv
    exact ⟨l', by simp only [D.py]; exact .tuple ho hc hk h1, h2⟩
  | n + 1, .lst ds, v, u, hd, h, r => by
    simp only [dat] at hd
    simp only [Rp] at h
    obtain ⟨a, xs, e, sq, l⟩ := h
    subst e; cases r
    obtain ⟨z, its, k, rv, ho⟩ := I.hok a _ (g _ _ sq)
    obtain ⟨l', h1, h2⟩ := RpL.reads I hs g n ds xs its hd l rv
    exact ⟨a :: l', by simp only [D.py]; exact .list ho rfl rfl h1, by simp only [List.mem_cons, not_or]; exact ⟨fun z => notSys I hs (g _ _ sq) z.symm, h2⟩⟩
  | n + 1, .dct ds, v, u, hd, h, r => by
    simp only [dat] at hd
    simp only [Rp] at h
    obtain ⟨a, e, ⟨kvs, sq, l⟩ | ⟨kvs, sq, l⟩⟩ := h
    · subst e; cases r
      obtain ⟨z, z2, vs, kv, o, es, ep, ho, hex, hdt, hko, hp, hnd⟩ := I.hok a _ (g _ _ sq)
      obtain ⟨l1, l2, h1, h2, h3, h4⟩ := RpK.reads I hs g n ds kvs vs es.toList hd l kv hp
      refine ⟨a :: l1 ++ l2, by simp only [D.py]; exact .dict ho hex.1 hdt h1 h2, ?_⟩
      simp only [List.cons_append, List.mem_cons, List.mem_append, not_or]
      exact ⟨fun z => notSys I hs (g _ _ sq) z.symm, h3, h4⟩
    · subst e; cases r
      obtain ⟨z, z2, xs, pr, o, es, ep, ho, hex, hdt, hes, hnd⟩ := I.hok a _ (g _ _ sq)
      obtain ⟨l1, l2, h1, h2, h3, h4⟩ := RpT.reads I hs g n ds kvs xs hd l pr
      refine ⟨a :: l1 ++ l2, by simp only [D.py]; exact .dict ho hex.1 hdt (by rw [hes]; exact h1) (by rw [hes]; exact h2), ?_⟩
      simp only [List.cons_append, List.mem_cons, List.mem_append, not_or]
      exact ⟨fun z => notSys I hs (g _ _ sq) z.symm, h3, h4⟩
  | n, .obj _, v, u, hd, _, _ => by simp [dat] at hd
  | n, .glo _, v, u, hd, _, _ => by simp [dat] at hd
  | n, .scr _, v, u, hd, _, _ => by simp [dat] at hd
theorem RpL.reads (I : Inv X pins σ H s) (hs : Sysm X.K) (g : ∀ a o, G a = some o → H a = some o) : ∀ (n : Nat) (ds : List D) (vs : List V) (us : List Value), datL n ds = true → RpL X.K X.mg as G ds vs → Vals vs us → ∃ l, ReadsAll s.heap us (pyL ds) l ∧ sysModules ∉ l
  | _, [], vs, us, _, h, r => by
    simp only [RpL] at h; subst h; cases r
    exact ⟨[], by simp only [pyL]; exact .nil, by simp⟩
  | n, d :: ds, vs, us, hd, h, r => by
    simp only [datL, Bool.and_eq_true] at hd
    simp only [RpL] at h
    obtain ⟨v, rr, e, h1, h2⟩ := h
    subst e
    cases r with
    | cons r1 r2 =>
      obtain ⟨l1, a1, a2⟩ := Rp.reads I hs g n d v _ hd.1 h1 r1
      obtain ⟨l2, b1, b2⟩ := RpL.reads I hs g n ds rr _ hd.2 h2 r2
      exact ⟨l1 ++ l2, by simp only [pyL]; exact .cons a1 b1, by simp only [List.mem_append, not_or]; exact ⟨a2, b2⟩⟩
theorem RpK.reads (I : Inv X pins σ H s) (hs : Sysm X.K) (g : ∀ a o, G a = some o → H a = some o) : ∀ (n : Nat) (ds : List (D × D)) (kvs : List (Key × V)) (vs : List (Key × Value)) (es : List DictEntry), datK n ds = true → RpK X.K X.mg as G ds kvs → KV kvs vs → Pairs (mixKind X.prog X.w) es vs →
    ∃ l1 l2, ReadsAll s.heap (es.map (·.key)) ((pyK ds).map (·.1)) l1 ∧ ReadsAll s.heap (es.map (·.val)) ((pyK ds).map (·.2)) l2 ∧ sysModules ∉ l1 ∧ sysModules ∉ l2
  | _, [], kvs, vs, es, _, h, r, p => by
    simp only [RpK] at h; subst h; cases r; cases p
    exact ⟨[], [], by simp only [pyK]; exact .nil, by simp only [pyK]; exact .nil, by simp, by simp⟩
  | n, (k, d) :: ds, kvs, vs, es, hd, h, r, p => by
    simp only [datK, Bool.and_eq_true] at hd
    simp only [RpK] at h
    obtain ⟨q, v, rr, e, ek, h1, h2⟩ := h
    subst e
    cases r with
    | cons r1 r2 =>
      cases p with
      | @cons e' _ es' _ p1 p2 p3 =>
        obtain ⟨l1, a1, a2⟩ := Rp.reads I hs g n d v _ hd.1.2 h1 r1.2
        obtain ⟨m1, m2, b1, b2, b3, b4⟩ := RpK.reads I hs g n ds rr _ _ hd.2 h2 r2 p3
        have hk : keyIs q e'.key = true := by
          have := p1
          rw [← r1.1] at this
          exact this
        have kr : ReadsAll s.heap (e'.key :: es'.map (·.key)) (k.py :: (pyK ds).map (·.1)) ([] ++ m1) := by
          refine .cons ?_ b1
          rw [ek]
          rcases keyIs_shape hk with ⟨i, t, rfl, e2⟩ | ⟨x, t, rfl, e2⟩
          · rw [e2]; simp only [kD, D.py]; exact .int _ _
          · rw [e2]; simp only [kD, D.py]; exact .str _ _
        refine ⟨[] ++ m1, l1 ++ m2, by simp only [pyK, List.map_cons]; exact kr, ?_, by simpa using b3, by simp only [List.mem_append, not_or]; exact ⟨a2, b4⟩⟩
        simp only [pyK, List.map_cons]
        refine .cons ?_ b2
        rw [p2]; exact a1
theorem RpT.reads (I : Inv X pins σ H s) (hs : Sysm X.K) (g : ∀ a o, G a = some o → H a = some o) : ∀ (n : Nat) (ds : List (D × D)) (kvs : List (List Key × V)) (xs : List (List Key × Addr × Value)), datK n ds = true → RpT X.K X.mg as G ds kvs →
    Paired (fun (p : List Key × V) (q : List Key × Addr × Value) => p.1 = q.1 ∧ H q.2.1 = some (.tup (p.1.map kV)) ∧ RelV p.2 q.2.2) kvs xs →
    ∃ l1 l2, ReadsAll s.heap ((xs.map (entryOfKey (tupleKind (mixKind X.prog X.w)))).map (·.key)) ((pyK ds).map (·.1)) l1 ∧ ReadsAll s.heap ((xs.map (entryOfKey (tupleKind (mixKind X.prog X.w)))).map (·.val)) ((pyK ds).map (·.2)) l2 ∧ sysModules ∉ l1 ∧ sysModules ∉ l2
  | _, [], kvs, xs, _, h, r => by
    simp only [RpT] at h; subst h; cases r
    exact ⟨[], [], by simp only [pyK]; exact .nil, by simp only [pyK]; exact .nil, by simp, by simp⟩
  | n, (k, d) :: ds, kvs, xs, hd, h, r => by
    simp only [datK, Bool.and_eq_true] at hd
    simp only [RpT] at h
    obtain ⟨q, v, rr, e, ek, h1, h2⟩ := h
    subst e
    cases r with
    | cons r1 r2 =>
      rename_i x xs'
      obtain ⟨l1, a1, a2⟩ := Rp.reads I hs g n d v _ hd.1.2 h1 r1.2.2
      obtain ⟨m1, m2, b1, b2, b3, b4⟩ := RpT.reads I hs g n ds rr _ hd.2 h2 r2
      obtain ⟨its, rv, ⟨o, ho, hc, kk, hk⟩, _⟩ := I.tuple (SqT.of r1.2.1)
      have ks : ∀ (q : List Key) (its : List Value), Vals (q.map kV) its → ReadsAll s.heap its (pyL (q.map kD)) [] := by
        intro q
        induction q with
        | nil => intro its rv; cases rv; exact .nil
        | cons y q ih =>
          intro its rv
          obtain ⟨b, bs, rfl, w1, w2⟩ : ∃ b bs, its = b :: bs ∧ RelV (kV y) b ∧ Vals (q.map kV) bs := by
            cases rv with
            | cons w1 w2 => exact ⟨_, _, rfl, w1, w2⟩
          have z1 : Reads s.heap b (kD y).py [] := by
            cases y with
            | inl i => obtain ⟨t, e⟩ := (show ∃ t, b = Value.int i t from w1); rw [e]; exact .int _ _
            | inr x => obtain ⟨t, e⟩ := (show ∃ t, b = Value.str x t from w1); rw [e]; exact .str _ _
          have z : ReadsAll s.heap (b :: bs) ((kD y).py :: pyL (q.map kD)) ([] ++ []) := .cons z1 (ih _ w2)
          simpa [pyL] using z
      have kr : ReadsAll s.heap (.ref x.2.1 :: (xs'.map (entryOfKey (tupleKind (mixKind X.prog X.w)))).map (·.key)) (k.py :: (pyK ds).map (·.1)) ([] ++ m1) := by
        refine .cons ?_ b1
        rw [ek]
        simp only [D.py]
        exact .tuple ho hc hk (ks q its rv)
      refine ⟨[] ++ m1, l1 ++ m2, by simp only [pyK, List.map_cons]; exact kr, ?_, by simpa using b3, by simp only [List.mem_append, not_or]; exact ⟨a2, b4⟩⟩
      simp only [pyK, List.map_cons]
      exact .cons a1 b2
end
end
end Sm


set_option Elab.async false
set_option linter.all false
set_option maxRecDepth 100000
set_option maxHeartbeats 1000000
/-! Sm4: comparisons, tests, displays, subscripts, slices. -/
namespace Sm
open PySem PySem.Spec L2
theorem PE.imp {X : Cx} {e : Expr} {t u : TE} (h : PE X e t) (q : ∀ σ H Q, u σ H Q → t σ H Q) : PE X e u := ⟨fun pins s σ H Q I z => h.run pins s σ H Q I (q σ H Q z)⟩
section
variable {C : Cn} {κ κa κb : Kd} {a b c e : Expr} {ma mb mc m : Ex} {pos : Pos} {g : D → D → M D}
theorem TEo.imp {σ : L2.St} {H : Hp} {Q Q' : VK} (h : TEo C κ m σ H Q) (q : ∀ v H, Q v H → Q' v H) : TEo C κ m σ H Q' := by
  obtain ⟨env, W, st, e, R, o⟩ := h
  exact ⟨env, W, st, e, R, o.imp fun d st' h v W' a b c => q _ _ (h v W' a b c)⟩
theorem te_un {σ : L2.St} {H : Hp} {Q : VK} {g1 : D → M D} {r : V → Hp → Prop} (hr : ∀ (W : Wd) (st : Store) (d : D) (x : V), C.ok W st → Bor C.X.K C.X.mg W d x →
      (Out C σ W (g1 d st) fun d' st' => ∀ z W', Ext W W' → C.ok W' st' → C.rk κ W W' d' z → Q z W'.H) → r x W.H)
    (h : TEo C κ (fun env => bnd (m env) g1) σ H Q) : TEo C κa m σ H r := by
  obtain ⟨env, W, st, e, R, o⟩ := h
  refine ⟨env, W, st, e, R, (Out.bnd o).imp fun d st' o' v W' e' k' r' => ?_⟩
  exact hr W' st' d v k' r'.bor ((o'.up e').imp fun d2 st2 hq z W2 e2 k2 r2 => hq z W2 (e'.trans e2) k2 (r2.down e'))
theorem te_bin {σ : L2.St} {H : Hp} {Q : VK} {r : R2} (hr : ∀ (W : Wd) (st : Store) (d1 d2 : D) (x y : V), C.ok W st → Bor C.X.K C.X.mg W d1 x → Bor C.X.K C.X.mg W d2 y →
      (Out C σ W (g d1 d2 st) fun d' st' => ∀ z W', Ext W W' → C.ok W' st' → C.rk κ W W' d' z → Q z W'.H) → r x y W.H Q)
    (h : TEo C κ (eBin g ma mb) σ H Q) : tOp r (TEo C κa ma) (TEo C κb mb) σ H Q := by
  obtain ⟨env, W, st, e, R, o⟩ := h
  refine ⟨env, W, st, e, R, (Out.bnd o).imp fun d1 st1 o1 x W1 e1 k1 r1 => ?_⟩
  refine ⟨env, W1, st1, rfl, R.up e1 k1, (Out.bnd (o1.up e1)).imp fun d2 st2 o2 y W2 e2 k2 r2 => ?_⟩
  exact hr W2 st2 d1 d2 x y k2 (r1.bor.ext e2) r2.bor ((o2.up e2).imp fun d3 st3 hq z W3 e3 k3 r3 => hq z W3 ((e1.trans e2).trans e3) k3 (r3.down (e1.trans e2)))

/-! ### tests -/
@[simp] def tru : D → M Bool
  | .bl b => ret b
  | .non => ret false
  | .int i => ret (i != 0)
  | .tup xs => ret (!xs.isEmpty)
  | .lst xs => ret (!xs.isEmpty)
  | _ => halt
@[simp] def tV (m : Ex) : Tx := fun env => bnd (m env) tru
theorem tru_ok {σ : L2.St} {W : Wd} {st : Store} {d : D} {x : V} {Q : Bool → Hp → Prop} (k : C.ok W st) (b : Bor C.X.K C.X.mg W d x) (o : Out C σ W (tru d st) fun b st' => ∀ W', Ext W W' → C.ok W' st' → Q b W'.H) : ∃ q, TruV C.X.K x W.H q ∧ Q q W.H := by
  cases d with
  | non => have := b.non; subst this; exact ⟨false, rfl, (show (∀ W', Ext W W' → C.ok W' st → Q false W'.H) from o) W (.refl W) k⟩
  | bl i => have := b.bl; subst this; exact ⟨i, rfl, (show (∀ W', Ext W W' → C.ok W' st → Q i W'.H) from o) W (.refl W) k⟩
  | int i => have := b.int; subst this; exact ⟨_, rfl, (show (∀ W', Ext W W' → C.ok W' st → Q (i != 0) W'.H) from o) W (.refl W) k⟩
  | tup ds =>
    obtain ⟨a, xs, e, s, l⟩ := b.tup k
    subst e
    refine ⟨!xs.isEmpty, .inr (.inl ⟨xs, s, rfl⟩), ?_⟩
    have : xs.isEmpty = ds.isEmpty := by
      have := l.len
      cases ds <;> cases xs <;> simp_all
    rw [this]
    exact (show (∀ W', Ext W W' → C.ok W' st → Q (!ds.isEmpty) W'.H) from o) W (.refl W) k
  | lst ds =>
    obtain ⟨a, xs, e, s, l⟩ := b.lst k
    subst e
    refine ⟨!xs.isEmpty, .inl ⟨xs, SqL.of s, rfl⟩, ?_⟩
    have : xs.isEmpty = ds.isEmpty := by
      have := l.len
      cases ds <;> cases xs <;> simp_all
    rw [this]
    exact (show (∀ W', Ext W W' → C.ok W' st → Q (!ds.isEmpty) W'.H) from o) W (.refl W) k
  | _ => exact False.elim o
/-- an expression as a test -/
theorem st_val (h : SE C κ e m) (he : ∀ whole, isTrue e C.X.env whole = (do let v ← whole; standAt e.pos; holding [v] (truthy v)) := by intro _; rfl) : ST C e (tV m) :=
  ⟨fun pins s σ H Q I ⟨env, W, st, hH, R, o⟩ => by
    subst hH
    refine (pt_truth h he).run pins s σ W.H Q I ⟨env, W, st, rfl, R, (Out.bnd o).imp fun d st' o' v W' e' k' r' => ?_⟩
    exact tru_ok k' r'.bor ((o'.up e').imp fun b st2 hq W2 e2 k2 => hq W2 (e'.trans e2) k2)⟩
theorem st_cmp {op : CmpOp} (ho : SOp C κ (compareOp op) g) (ha : SE C κa a ma) (hb : SE C κb b mb) (hm : behindInMarks op b = false) : ST C (.Compare a [op] [b] pos) (tV (eBin g ma mb)) :=
  ST.mk fun pins s σ env W st Q I R o => by
    refine wpAny_isTrue_Compare1 (thn (bin_go (Q := fun z H => ∃ q, TruV C.X.K z H q ∧ Q q H) ho ha hb I R ((Out.bnd o).imp fun d st' o' z W' e' k' r' => tru_ok k' r'.bor ((o'.up e').imp fun b st2 hq W2 e2 k2 => hq W2 (e'.trans e2) k2))) fun v s1 h1 => thn h1 fun u s2 h2 => thn h2 fun r s3 ⟨z, H3, I3, r3, q3⟩ => ?_) hm
    exact tru_ok_run I3 r3 q3
where
  tru_ok_run {pins : List (Addr × Obj)} {s : Shared} {σ : L2.St} {H : Hp} {x : V} {v : Value} {Q : Bool → Hp → Prop} (I : Inv C.X pins σ H s) (r : RelV x v) (h : ∃ k, TruV C.X.K x H k ∧ Q k H) : wpAny (model C.X.prog C.X.w) C.X.A (truthy v) (TP C.X pins σ Q) C.X.xe s := L2.tru_ok pins s σ H x v Q I r h
@[simp] def tAnd' (a b : Tx) : Tx := fun env => bnd (a env) fun x => if x = true then b env else ret false
@[simp] def tOr' (a b : Tx) : Tx := fun env => bnd (a env) fun x => if x = true then ret true else b env
@[simp] def tNot' (a : Tx) : Tx := fun env => bnd (a env) fun x => ret (!x)
variable {ta tb : Tx} {rest : List Expr}
theorem sw_and1 (ha : ST C a ta) : SW C (.BoolOp .And [a] pos) ta := pw_and1 ha
theorem sw_or1 (ha : ST C a ta) : SW C (.BoolOp .Or [a] pos) ta := pw_or1 ha
theorem tt_bind {σ : L2.St} {H : Hp} {Q : Bool → Hp → Prop} {u : Bool → Tx} {R : Bool → Hp → Prop} (h : TTo C (fun env => bnd (ta env) fun x => u x env) σ H Q) (q : ∀ x H, TTo C (u x) σ H Q → R x H) : TTo C ta σ H R := by
  obtain ⟨env, W, st, e, SR1, o⟩ := h
  refine ⟨env, W, st, e, SR1, (Out.bnd o).imp fun b st' o' W' e' k' => ?_⟩
  exact q b W'.H ⟨env, W', st', rfl, SR1.up e' k', (o'.up e').imp fun d st2 hq W2 e2 k2 => hq W2 (e'.trans e2) k2⟩
theorem tt_ret {σ : L2.St} {H : Hp} {Q : Bool → Hp → Prop} {x : Bool} (h : TTo C (fun _ => ret x) σ H Q) : Q x H := by
  obtain ⟨env, W, st, e, R, o⟩ := h
  subst e
  exact (show (∀ W', Ext W W' → C.ok W' st → Q x W'.H) from o) W (.refl W) R.ok
theorem PW.imp {X : Cx} {e : Expr} {t u : TT} (h : PW X e t) (q : ∀ σ H Q, u σ H Q → t σ H Q) : PW X e u := ⟨fun wh pins s σ H Q I z => h.run wh pins s σ H Q I (q σ H Q z)⟩
theorem PT.imp {X : Cx} {e : Expr} {t u : TT} (h : PT X e t) (q : ∀ σ H Q, u σ H Q → t σ H Q) : PT X e u := ⟨fun pins s σ H Q I z => h.run pins s σ H Q I (q σ H Q z)⟩
theorem sw_and (ha : ST C a ta) (hb : SW C (.BoolOp .And (b :: rest) pos) tb) : SW C (.BoolOp .And (a :: b :: rest) pos) (tAnd' ta tb) :=
  PW.imp (pw_and ha hb) fun σ H Q h => tt_bind (u := fun x env => if x = true then tb env else ret false) h fun x H1 h1 => by
    by_cases z : x = true
    · rw [if_pos z]; simp only [z, if_true] at h1; exact h1
    · rw [if_neg z]; simp only [z, if_false] at h1; exact tt_ret h1
theorem sw_or (ha : ST C a ta) (hb : SW C (.BoolOp .Or (b :: rest) pos) tb) : SW C (.BoolOp .Or (a :: b :: rest) pos) (tOr' ta tb) :=
  PW.imp (pw_or ha hb) fun σ H Q h => tt_bind (u := fun x env => if x = true then ret true else tb env) h fun x H1 h1 => by
    by_cases z : x = true
    · rw [if_pos z]; simp only [z, if_true] at h1; exact tt_ret h1
    · rw [if_neg z]; simp only [z, if_false] at h1; exact h1
theorem SW.st (h : SW C e ta) : ST C e ta := PW.pt h
theorem st_not (ha : ST C a ta) : ST C (.UnaryOp .Not a pos) (tNot' ta) :=
  PT.imp (pt_not ha) fun σ H Q h => tt_bind (u := fun x _ => ret (!x)) h fun x H1 h1 => tt_ret h1

/-! ### and, or, not, if as values -/
@[simp] def eAnd (a b : Ex) : Ex := fun env => bnd (a env) fun x => match x with
  | .bl true => b env
  | .bl false => ret (.bl false)
  | _ => halt
@[simp] def eOr (a b : Ex) : Ex := fun env => bnd (a env) fun x => match x with
  | .bl true => ret (.bl true)
  | .bl false => b env
  | _ => halt
@[simp] def notD : D → M D
  | .bl b => ret (.bl (!b))
  | _ => halt
@[simp] def eNot (a : Ex) : Ex := fun env => bnd (a env) notD
@[simp] def eIf (t : Tx) (a b : Ex) : Ex := fun env => bnd (t env) fun x => if x = true then a env else b env
theorem se_one {op : BoolOp} (h : SE C κ a ma) : SE C κ (.BoolOp op [a] pos) ma := pe_one h
theorem te_bind {σ : L2.St} {H : Hp} {Q R : VK} {u : D → Ex} (h : TEo C κ (fun env => bnd (ma env) fun x => u x env) σ H Q) (q : ∀ (W : Wd) (st : Store) d x, C.ok W st → Bor C.X.K C.X.mg W d x → TEo C κ (u d) σ W.H Q → R x W.H) : TEo C κa ma σ H R := by
  obtain ⟨env, W, st, e, SR1, o⟩ := h
  refine ⟨env, W, st, e, SR1, (Out.bnd o).imp fun d st' o' v W' e' k' r' => ?_⟩
  exact q W' st' d v k' r'.bor ⟨env, W', st', rfl, SR1.up e' k', (o'.up e').imp fun d st2 hq z W2 e2 k2 r2 => hq z W2 (e'.trans e2) k2 (r2.down e')⟩
theorem te_ret {σ : L2.St} {H : Hp} {Q : VK} {d : D} {v : V} (h : TEo C .froz (fun _ => ret d) σ H Q) (r : ∀ W : Wd, C.rp W d v) : Q v H := by
  obtain ⟨env, W, st, e, R, o⟩ := h
  subst e
  exact (show (∀ v W', Ext W W' → C.ok W' st → C.rk .froz W W' d v → Q v W'.H) from o) v W (.refl W) R.ok (r W)
theorem se_and (ha : SE C κa a ma) (hb : SE C .froz (.BoolOp .And (b :: rest) pos) mb) : SE C .froz (.BoolOp .And (a :: b :: rest) pos) (eAnd ma mb) :=
  PE.imp (pe_and ha hb) fun σ H Q h => te_bind h fun W st d x k br h1 => by
    cases d with
    | bl i =>
      have := br.bl
      subst this
      refine ⟨i, rfl, ?_⟩
      cases i with
      | true => rw [if_pos rfl]; exact h1
      | false => rw [if_neg Bool.false_ne_true]; exact te_ret h1 fun _ => by simp [Rp]
    | _ => exact (let ⟨_, _, _, _, _, o⟩ := h1; False.elim o)
theorem se_or (ha : SE C κa a ma) (hb : SE C .froz (.BoolOp .Or (b :: rest) pos) mb) : SE C .froz (.BoolOp .Or (a :: b :: rest) pos) (eOr ma mb) :=
  PE.imp (pe_or ha hb) fun σ H Q h => te_bind h fun W st d x k br h1 => by
    cases d with
    | bl i =>
      have := br.bl
      subst this
      refine ⟨i, rfl, ?_⟩
      cases i with
      | true => rw [if_pos rfl]; exact te_ret h1 fun _ => by simp [Rp]
      | false => rw [if_neg Bool.false_ne_true]; exact h1
    | _ => exact (let ⟨_, _, _, _, _, o⟩ := h1; False.elim o)
theorem se_not (ha : SE C κa a ma) : SE C .froz (.UnaryOp .Not a pos) (eNot ma) :=
  PE.imp (pe_not ha) fun σ H Q h => te_bind (u := fun d _ => notD d) h fun W st d x k br h1 => by
    cases d with
    | bl i =>
      have := br.bl
      subst this
      exact ⟨i, rfl, te_ret h1 fun _ => by simp [Rp]⟩
    | _ => exact (let ⟨_, _, _, _, _, o⟩ := h1; False.elim o)
theorem se_if (ht : ST C c ta) (ha : SE C κ a ma) (hb : SE C κ b mb) : SE C κ (.IfExp c a b pos) (eIf ta ma mb) :=
  PE.imp (pe_ifExp ht ha hb) fun σ H Q ⟨env, W, st, e, R, o⟩ => by
    refine ⟨env, W, st, e, R, (Out.bnd o).imp fun x st' o' W' e' k' => ?_⟩
    by_cases z : x = true
    · rw [if_pos z] at o' ⊢
      exact ⟨env, W', st', rfl, R.up e' k', (o'.up e').imp fun d st2 hq v W2 e2 k2 r2 => hq v W2 (e'.trans e2) k2 (r2.down e')⟩
    · rw [if_neg z] at o' ⊢
      exact ⟨env, W', st', rfl, R.up e' k', (o'.up e').imp fun d st2 hq v W2 e2 k2 r2 => hq v W2 (e'.trans e2) k2 (r2.down e')⟩
@[simp] def negD : D → M D
  | .int i => ret (.int (-i))
  | _ => halt
@[simp] def eNeg (a : Ex) : Ex := fun env => bnd (a env) negD
theorem se_neg (ha : SE C κa a ma) : SE C .froz (.UnaryOp .USub a pos) (eNeg ma) :=
  PE.imp (pe_un un_neg ha) fun σ H Q h => te_bind (u := fun d _ => negD d) h fun W st d x k br h1 => by
    cases d with
    | int i =>
      have := br.int
      subst this
      exact ⟨i, rfl, te_ret h1 fun _ => by simp [Rp]⟩
    | _ => exact (let ⟨_, _, _, _, _, o⟩ := h1; False.elim o)
end

/-! ### comparisons -/
/-- == of data -/
def D.eqv (a b : D) : Bool := PyData.eqv a.py b.py
def eqD (a b : D) : Option D := match shp 60 a && shp 60 b with
  | true => some (.bl (D.eqv a b))
  | false => none
def neD (a b : D) : Option D := match shp 60 a && shp 60 b with
  | true => some (.bl (!D.eqv a b))
  | false => none
def D.lt (a b : D) : Bool := PySem.W.dataLt a.py b.py
def ordOk (a b : D) : Bool := shp 60 a && shp 60 b && PySem.W.alike a.py b.py && !(match a with | .non => true | _ => false) && !(match b with | .non => true | _ => false)
def ltD (a b : D) : Option D := match ordOk a b with | true => some (.bl (D.lt a b)) | false => none
def gtD (a b : D) : Option D := match ordOk a b with | true => some (.bl (D.lt b a)) | false => none
def leD (a b : D) : Option D := match ordOk a b with | true => some (.bl (!D.lt b a)) | false => none
def geD (a b : D) : Option D := match ordOk a b with | true => some (.bl (!D.lt a b)) | false => none
def D.neg : D → D
  | .bl i => .bl (!i)
  | d => d
/-- is -/
def isD (a b : D) : Option D := match a, b with
  | .non, .non => some (.bl true)
  | .bl _, .non => some (.bl false) | .int _, .non => some (.bl false) | .str _, .non => some (.bl false) | .tup _, .non => some (.bl false) | .lst _, .non => some (.bl false) | .dct _, .non => some (.bl false)
  | .non, .bl _ => some (.bl false) | .int _, .bl _ => some (.bl false) | .str _, .bl _ => some (.bl false) | .tup _, .bl _ => some (.bl false) | .lst _, .bl _ => some (.bl false) | .dct _, .bl _ => some (.bl false)
  | .bl i, .bl j => some (.bl (decide (i = j)))
  | _, _ => none
def isntD (a b : D) : Option D := (isD a b).map D.neg
/-- in -/
def inS (x y : Str) : Bool := !(Builtin.Str.occurrences y x 0 y.length 1).isEmpty
def inD (x c : D) : Option D := match c with
  | .lst ys => (match shp 60 x && shpL 60 ys with | true => some (.bl (ys.any fun y => D.eqv y x)) | false => none)
  | .tup ys => (match shp 60 x && shpL 60 ys with | true => some (.bl (ys.any fun y => D.eqv y x)) | false => none)
  | .str y => (match x with | .str z => some (.bl (inS z y)) | _ => none)
  | _ => none
def ninD (x c : D) : Option D := (inD x c).map D.neg
section
variable {K : PySem.W.Frag} {mg : Str → Option Value} {W : Wd} {st : Store}
theorem Bor.rp {d : D} {v : V} (k : W.Ok K mg st) (h : Bor K mg W d v) : ∃ G' : Hp, (∀ a o, G' a = some o → W.H a = some o) ∧ Rp K mg W.as G' d v := by
  rcases h with h | ⟨a, ev, na, t⟩
  · exact ⟨W.G, k.sub, h⟩
  · refine ⟨fun b => if b = a then W.H a else W.G b, fun b o e => ?_, ?_⟩
    · have e' : (if b = a then W.H a else W.G b) = some o := e
      by_cases q : b = a
      · rw [if_pos q] at e'; rw [q]; exact e'
      · rw [if_neg q] at e'; exact k.sub _ _ e'
    · have up : ∀ b o, W.G b = some o → (fun b => if b = a then W.H a else W.G b) b = some o := fun b o e => by
        show (if b = a then W.H a else W.G b) = some o
        by_cases q : b = a
        · rw [if_pos q, ← q]; exact k.sub _ _ e
        · rw [if_neg q]; exact e
      have at_ : (fun b => if b = a then W.H a else W.G b) a = W.H a := by show (if a = a then W.H a else W.G a) = W.H a; rw [if_pos rfl]
      subst ev
      cases d with
      | lst ds =>
        obtain ⟨vs, h1, h2⟩ := t
        simp only [Rp]
        exact ⟨a, vs, rfl, by rw [if_pos rfl]; exact h1, RpL.up (fun _ _ h => h) up ds vs h2⟩
      | dct ds =>
        simp only [Rp]
        rcases t with ⟨kvs, h1, h2⟩ | ⟨kvs, h1, h2⟩
        · exact ⟨a, rfl, .inl ⟨kvs, by rw [if_pos rfl]; exact h1, RpK.up (fun _ _ h => h) up ds kvs h2⟩⟩
        · exact ⟨a, rfl, .inr ⟨kvs, by rw [if_pos rfl]; exact h1, RpT.up (fun _ _ h => h) up ds kvs h2⟩⟩
      | _ => exact False.elim t
end
section
variable {C : Cn} {pins : List (Addr × Obj)} {σ : L2.St} {s : Shared} {W : Wd} {st : Store}
theorem Bor.reads {n : Nat} {d : D} {v : V} {u : Value} (I : Inv C.X pins σ W.H s) (hs : Sysm C.X.K) (k : C.ok W st) (h : Bor C.X.K C.X.mg W d v) (r : RelV v u) (hd : dat n d = true) : ∃ l, Reads s.heap u d.py l ∧ sysModules ∉ l := by
  obtain ⟨G', g, h'⟩ := Bor.rp k h
  exact Rp.reads I hs g n d v u hd h' r
theorem room60 {A : Around} {n m : Nat} (hu : A.units + 64 < cLine) (h : n ≤ 61) : A.units + min n m < cLine := by omega
theorem sop_data {f : Value → Value → Sem Value} {g : D → D → Option D} {c : D → D → Bool} {b : D → D → Bool} (hs : Sysm C.X.K)
    (hg : ∀ x y, g x y = match c x y with | true => some (.bl (b x y)) | false => none)
    (hc : ∀ x y, c x y = true → shp 60 x = true ∧ shp 60 y = true)
    (rule : ∀ (s : Shared) (x y : D) (u v : Value) (l l' : List Addr) (Q : Value → Shared → Prop), c x y = true → Reads s.heap u x.py l → Reads s.heap v y.py l' → Q (.bool (b x y)) s → wpAny (model C.X.prog C.X.w) C.X.A (f u v) Q C.X.xe s) :
    SOp C .froz f (pur g) := by
  intro pins s σ W st d1 d2 x y u v Q I k b1 b2 ru rv o
  have o' : Out C σ W (lift (g d1 d2) st) _ := o
  rw [hg] at o'
  cases q : c d1 d2 with
  | true =>
    rw [q] at o'
    obtain ⟨h1, h2⟩ := hc _ _ q
    obtain ⟨l1, r1, _⟩ := b1.reads I hs k ru (dat_of_shp _ _ h1)
    obtain ⟨l2, r2, _⟩ := b2.reads I hs k rv (dat_of_shp _ _ h2)
    exact rule s d1 d2 u v l1 l2 _ q r1 r2 ⟨.bl _, W.H, I, rfl, o' (.bl (b d1 d2)) W (.refl W) k rk_bl⟩
  | false => rw [q] at o'; exact False.elim o'
theorem dep60 {d : D} (h : shp 60 d = true) : d.py.depth ≤ 60 := depth_of_dat 60 d (dat_of_shp 60 d h)
theorem and2 {a b : Bool} (h : (a && b) = true) : a = true ∧ b = true := Bool.and_eq_true_iff.mp h
theorem sop_eq (hs : Sysm C.X.K) (hu : C.X.A.units + 64 < cLine) : SOp C .froz (compareOp .Eq) (pur eqD) :=
  sop_data hs (c := fun x y => shp 60 x && shp 60 y) (b := D.eqv) (fun _ _ => rfl) (fun _ _ h => and2 h) fun s x y u v l l' Q h r1 r2 hq =>
    SeqAt.eq_plain r1 r2 (plain_of_shp _ _ (and2 h).1) (plain_of_shp _ _ (and2 h).2) (by have := dep60 (and2 h).1; omega) hq
theorem sop_ne (hs : Sysm C.X.K) (hu : C.X.A.units + 64 < cLine) : SOp C .froz (compareOp .NotEq) (pur neD) :=
  sop_data hs (c := fun x y => shp 60 x && shp 60 y) (b := fun x y => !D.eqv x y) (fun _ _ => rfl) (fun _ _ h => and2 h) fun s x y u v l l' Q h r1 r2 hq =>
    SeqAt.ne_plain r1 r2 (plain_of_shp _ _ (and2 h).1) (plain_of_shp _ _ (and2 h).2) (by have := dep60 (and2 h).1; omega) hq
theorem py_non {a : D} (h : (!(match a with | .non => true | _ => false)) = true) (n : 60 = 60) (hs : shp 60 a = true) : a.py ≠ .none := by
  cases a with
  | non => cases h
  | obj i => simp [shp] at hs
  | glo i => simp [shp] at hs
  | scr i => simp [shp] at hs
  | _ => simp only [D.py]; intro z; cases z
theorem ordOk_is {a b : D} (h : ordOk a b = true) : shp 60 a = true ∧ shp 60 b = true ∧ PySem.W.alike a.py b.py = true ∧ a.py ≠ .none := by
  unfold ordOk at h
  simp only [Bool.and_eq_true] at h
  obtain ⟨⟨⟨⟨h1, h2⟩, h3⟩, h4⟩, h5⟩ := h
  exact ⟨h1, h2, h3, py_non h4 rfl h1⟩
theorem sop_lt (hs : Sysm C.X.K) (hu : C.X.A.units + 64 < cLine) : SOp C .froz (compareOp .Lt) (pur ltD) :=
  sop_data hs (c := ordOk) (b := D.lt) (fun _ _ => rfl) (fun _ _ h => ⟨(ordOk_is h).1, (ordOk_is h).2.1⟩) fun s x y u v l l' Q h r1 r2 hq => by
    obtain ⟨h1, h2, h3, h4⟩ := ordOk_is h
    exact PySem.W.lt_data r1 r2 h3 h4 (by have := dep60 h1; omega) hq
theorem sop_ge (hs : Sysm C.X.K) (hu : C.X.A.units + 64 < cLine) : SOp C .froz (compareOp .GtE) (pur geD) :=
  sop_data hs (c := ordOk) (b := fun x y => !D.lt x y) (fun _ _ => rfl) (fun _ _ h => ⟨(ordOk_is h).1, (ordOk_is h).2.1⟩) fun s x y u v l l' Q h r1 r2 hq => by
    obtain ⟨h1, h2, h3, h4⟩ := ordOk_is h
    exact PySem.W.ge_data r1 r2 h3 h4 (by have := dep60 h1; omega) hq
theorem sop_gt (hs : Sysm C.X.K) (hu : C.X.A.units + 64 < cLine) : SOp C .froz (compareOp .Gt) (pur gtD) :=
  sop_data hs (c := ordOk) (b := fun x y => D.lt y x) (fun _ _ => rfl) (fun _ _ h => ⟨(ordOk_is h).1, (ordOk_is h).2.1⟩) fun s x y u v l l' Q h r1 r2 hq => by
    obtain ⟨h1, h2, h3, h4⟩ := ordOk_is h
    exact PySem.W.gt_data r1 r2 h3 h4 (by have := dep60 h1; omega) hq
theorem sop_le (hs : Sysm C.X.K) (hu : C.X.A.units + 64 < cLine) : SOp C .froz (compareOp .LtE) (pur leD) :=
  sop_data hs (c := ordOk) (b := fun x y => !D.lt y x) (fun _ _ => rfl) (fun _ _ h => ⟨(ordOk_is h).1, (ordOk_is h).2.1⟩) fun s x y u v l l' Q h r1 r2 hq => by
    obtain ⟨h1, h2, h3, h4⟩ := ordOk_is h
    exact PySem.W.le_data r1 r2 h3 h4 (by have := dep60 h1; omega) hq
theorem any_py (x : D) : ∀ ys : List D, ((pyL ys).any fun y => PyData.eqv y x.py) = ys.any fun y => D.eqv y x
  | [] => rfl
  | y :: ys => by simp [pyL, List.any_cons, any_py x ys, D.eqv]
theorem sop_in (hs : Sysm C.X.K) (hu : C.X.A.units + 64 < cLine) : SOp C .froz (compareOp .In) (pur inD) := by
  intro pins s σ W st d1 d2 x y u v Q I k b1 b2 ru rv o
  have fin : ∀ {b : Bool}, (∀ v W', Ext W W' → C.ok W' st → C.rk .froz W W' (.bl b) v → Q v W'.H) → EP C.X pins σ Q (.bool b) s := fun h => ⟨.bl _, W.H, I, rfl, h (.bl _) W (.refl W) k rk_bl⟩
  cases d2 with
  | lst ys =>
    have o' : Out C σ W (lift (match shp 60 d1 && shpL 60 ys with | true => some (D.bl (ys.any fun y => D.eqv y d1)) | false => none) st) _ := o
    cases q : shp 60 d1 && shpL 60 ys with
    | false => rw [q] at o'; exact False.elim o'
    | true =>
      rw [q] at o'
      obtain ⟨h1, h2⟩ := and2 q
      have h3 : shp 61 (.lst ys) = true := by simp only [shp]; exact h2
      obtain ⟨l1, r1, _⟩ := b1.reads I hs k ru (dat_of_shp _ _ h1)
      obtain ⟨l2, r2, _⟩ := b2.reads I hs k rv (dat_of_shp _ _ h3)
      refine SeqAt.in_list_data (by simpa only [D.py] using r2) r1 (plainAll_of_shp _ _ h2) (plain_of_shp _ _ h1) (by have := dep60 h1; omega) ?_
      rw [any_py]
      exact fin o'
  | tup ys =>
    have o' : Out C σ W (lift (match shp 60 d1 && shpL 60 ys with | true => some (D.bl (ys.any fun y => D.eqv y d1)) | false => none) st) _ := o
    cases q : shp 60 d1 && shpL 60 ys with
    | false => rw [q] at o'; exact False.elim o'
    | true =>
      rw [q] at o'
      obtain ⟨h1, h2⟩ := and2 q
      have h3 : shp 61 (.tup ys) = true := by simp only [shp]; exact h2
      obtain ⟨l1, r1, _⟩ := b1.reads I hs k ru (dat_of_shp _ _ h1)
      obtain ⟨l2, r2, _⟩ := b2.reads I hs k rv (dat_of_shp _ _ h3)
      refine SeqAt.in_tuple_data (by simpa only [D.py] using r2) r1 (plainAll_of_shp _ _ h2) (plain_of_shp _ _ h1) (by have := dep60 h1; omega) ?_
      rw [any_py]
      exact fin o'
  | str z =>
    cases d1 with
    | str w =>
      have e1 := b1.str
      have e2 := b2.str
      subst e1 e2
      exact op_in_str pins s σ W.H _ _ u v Q I ru rv ⟨w, z, rfl, rfl, Out.get o (.bl (inS w z)) W (.refl W) k rk_bl⟩
    | _ => exact (show False from o).elim
  | _ => exact (show False from o).elim
theorem sop_nin (hs : Sysm C.X.K) (hu : C.X.A.units + 64 < cLine) : SOp C .froz (compareOp .NotIn) (pur ninD) := by
  intro pins s σ W st d1 d2 x y u v Q I k b1 b2 ru rv o
  have fin : ∀ {b : Bool}, (∀ v W', Ext W W' → C.ok W' st → C.rk .froz W W' (.bl b) v → Q v W'.H) → EP C.X pins σ Q (.bool b) s := fun h => ⟨.bl _, W.H, I, rfl, h (.bl _) W (.refl W) k rk_bl⟩
  cases d2 with
  | lst ys =>
    have o' : Out C σ W (lift ((match shp 60 d1 && shpL 60 ys with | true => some (D.bl (ys.any fun y => D.eqv y d1)) | false => none).map D.neg) st) _ := o
    cases q : shp 60 d1 && shpL 60 ys with
    | false => rw [q] at o'; exact False.elim o'
    | true =>
      rw [q] at o'
      obtain ⟨h1, h2⟩ := and2 q
      have h3 : shp 61 (.lst ys) = true := by simp only [shp]; exact h2
      obtain ⟨l1, r1, _⟩ := b1.reads I hs k ru (dat_of_shp _ _ h1)
      obtain ⟨l2, r2, _⟩ := b2.reads I hs k rv (dat_of_shp _ _ h3)
      refine SeqAt.notIn_list_data (by simpa only [D.py] using r2) r1 (plainAll_of_shp _ _ h2) (plain_of_shp _ _ h1) (by have := dep60 h1; omega) ?_
      rw [any_py]
      exact fin o'
  | tup ys =>
    have o' : Out C σ W (lift ((match shp 60 d1 && shpL 60 ys with | true => some (D.bl (ys.any fun y => D.eqv y d1)) | false => none).map D.neg) st) _ := o
    cases q : shp 60 d1 && shpL 60 ys with
    | false => rw [q] at o'; exact False.elim o'
    | true =>
      rw [q] at o'
      obtain ⟨h1, h2⟩ := and2 q
      have h3 : shp 61 (.tup ys) = true := by simp only [shp]; exact h2
      obtain ⟨l1, r1, _⟩ := b1.reads I hs k ru (dat_of_shp _ _ h1)
      obtain ⟨l2, r2, _⟩ := b2.reads I hs k rv (dat_of_shp _ _ h3)
      refine SeqAt.notIn_tuple_data (by simpa only [D.py] using r2) r1 (plainAll_of_shp _ _ h2) (plain_of_shp _ _ h1) (by have := dep60 h1; omega) ?_
      rw [any_py]
      exact fin o'
  | str z =>
    cases d1 with
    | str w =>
      have e1 := b1.str
      have e2 := b2.str
      subst e1 e2
      exact op_notin_str pins s σ W.H _ _ u v Q I ru rv ⟨w, z, rfl, rfl, Out.get o (.bl (!inS w z)) W (.refl W) k rk_bl⟩
    | _ => exact (show False from o).elim
  | _ => exact (show False from o).elim
end
end Sm


set_option Elab.async false
set_option linter.all false
set_option maxRecDepth 100000
set_option maxHeartbeats 1000000
/-! Sm5: statements, targets, loops, comprehensions. -/
namespace Sm
open PySem PySem.Spec L2

/-! ### slots -/
section
variable {C : Cn} {env : En} {W W' : Wd} {st st' : Store} {σ : L2.St} {i : Nat} {d : D} {v : V}
theorem put_same {e : En} {b : Bool} : e.put i b d i = some (b, d) := if_pos rfl
theorem put_ne {e : En} {b : Bool} {j : Nat} (h : j ≠ i) : e.put i b d j = e j := if_neg h
theorem SR.put (R : SR C env W st σ) (hi : i < C.X.N.length) (r : C.rp W d v) : SR C (env.put i false d) W st (σ.set i (some v)) := by
  have hl : i < σ.length := by rw [R.len]; exact hi
  refine ⟨R.ext, by rw [List.length_set, R.len], R.ok, fun j b e h => ?_, fun j k x y a hjk hj hk h1 h2 => ?_⟩
  · by_cases q : j = i
    · subst q
      rw [put_same] at h
      obtain ⟨rfl, rfl⟩ := Prod.mk.inj (Option.some.inj h)
      exact ⟨v, by rw [List.getElem?_set_self hl], by rw [if_neg Bool.false_ne_true]; exact r⟩
    · rw [put_ne q] at h
      rw [List.getElem?_set_ne (Ne.symm q)]
      exact R.slot j b e h
  · have n : ∀ {j x}, env.put i false d j = some (true, x) → j ≠ i ∧ env j = some (true, x) := fun {j x} h => by
      by_cases q : j = i
      · subst q; rw [put_same] at h; cases h
      · rw [put_ne q] at h; exact ⟨q, h⟩
    obtain ⟨n1, hj⟩ := n hj
    obtain ⟨n2, hk⟩ := n hk
    rw [List.getElem?_set_ne (Ne.symm n1)] at h1
    rw [List.getElem?_set_ne (Ne.symm n2)] at h2
    exact R.dis j k x y a hjk hj hk h1 h2
theorem SR.putOwn (R : SR C env W st σ) (e : Ext W W') (k : C.ok W' st') (hi : i < C.X.N.length) (r : C.rk .fresh W W' d v) : SR C (env.put i true d) W' st' (σ.set i (some v)) := by
  have hl : i < σ.length := by rw [R.len]; exact hi
  have R' := R.up e k
  refine ⟨R'.ext, by rw [List.length_set, R.len], R'.ok, fun j b x h => ?_, fun j m x y a hjk hj hk h1 h2 => ?_⟩
  · by_cases q : j = i
    · subst q
      rw [put_same] at h
      obtain ⟨rfl, rfl⟩ := Prod.mk.inj (Option.some.inj h)
      exact ⟨v, by rw [List.getElem?_set_self hl], by rw [if_pos rfl]; exact RK.down (κ := .fresh) R.ext r⟩
    · rw [put_ne q] at h
      rw [List.getElem?_set_ne (Ne.symm q)]
      exact R'.slot j b x h
  · obtain ⟨a0, ev, n0, _⟩ := r
    have other : ∀ {j x}, j ≠ i → env j = some (true, x) → σ[j]? = some (some (.ref a0)) → False := fun {j x} n h q => by
      obtain ⟨w, h3, h4⟩ := R.slot j true x h
      rw [if_pos rfl] at h4
      obtain ⟨a', ev', _, _, _, t⟩ := h4
      rw [q] at h3
      have := Option.some.inj (Option.some.inj h3)
      rw [ev'] at this
      cases this
      exact t.there n0
    have out : ∀ {j : Nat}, j ≠ i → (σ.set i (some v))[j]? = σ[j]? := fun n => List.getElem?_set_ne (Ne.symm n)
    have own : (σ.set i (some v))[i]? = some (some v) := List.getElem?_set_self hl
    by_cases q1 : j = i
    · by_cases q2 : m = i
      · exact hjk (q1.trans q2.symm)
      · subst q1
        rw [put_ne q2] at hk
        rw [own, ev] at h1
        have := Option.some.inj (Option.some.inj h1)
        cases this
        rw [out q2] at h2
        exact other q2 hk h2
    · by_cases q2 : m = i
      · subst q2
        rw [put_ne q1] at hj
        rw [own, ev] at h2
        have := Option.some.inj (Option.some.inj h2)
        cases this
        rw [out q1] at h1
        exact other q1 hj h1
      · rw [put_ne q1] at hj
        rw [put_ne q2] at hk
        rw [out q1] at h1
        rw [out q2] at h2
        exact R.dis j m x y a hjk hj hk h1 h2
/-- what the slot i owns is frozen -/
def En.frz (e : En) (i : Nat) : En := match e i with
  | some (true, d) => e.put i false d
  | _ => e
theorem SR.frz (R : SR C env W st σ) : ∃ W', W'.H = W.H ∧ Lat W W' ∧ SR C (env.frz i) W' st σ := by
  unfold En.frz
  cases q : env i with
  | none => exact ⟨W, rfl, .refl W, R⟩
  | some p =>
    obtain ⟨b, d⟩ := p
    cases b with
    | false => exact ⟨W, rfl, .refl W, R⟩
    | true =>
      obtain ⟨v, h1, h2⟩ := R.slot i true d q
      rw [if_pos rfl] at h2
      obtain ⟨a, ev, n0, ng, na, t⟩ := h2
      subst ev
      refine ⟨W.frz a, rfl, frz_lat ng, frz_ext R.ext n0 ng, R.len, frz_ok R.ok ng na, fun j b x h => ?_, fun j m x y c hjk hj hk g1 g2 => ?_⟩
      · show ∃ v, σ[j]? = some (some v) ∧ _
        by_cases z : j = i
        · subst z
          have h' : env.put j false d j = some (b, x) := h
          rw [put_same] at h'
          obtain ⟨rfl, rfl⟩ := Prod.mk.inj (Option.some.inj h')
          exact ⟨.ref a, h1, by rw [if_neg Bool.false_ne_true]; exact frz_rp ng t⟩
        · have h' : env.put i false d j = some (b, x) := h
          rw [put_ne z] at h'
          obtain ⟨w, h3, h4⟩ := R.slot j b x h'
          refine ⟨w, h3, ?_⟩
          cases b with
          | false => rw [if_neg Bool.false_ne_true] at h4 ⊢; exact h4.lat (frz_lat ng)
          | true =>
            rw [if_pos rfl] at h4 ⊢
            obtain ⟨a', ev', m0, mg, ma, t'⟩ := h4
            subst ev'
            have hne : a' ≠ a := fun e => R.dis j i x d a z h' q (by rw [h3, e]) h1
            refine ⟨a', rfl, m0, ?_, ma, ?_⟩
            · show (if a' = a then W.H a else W.G a') = none
              rw [if_neg hne]; exact mg
            · cases x with
              | lst ds =>
                obtain ⟨vs, e1, e2⟩ := t'
                exact ⟨vs, e1, RpL.up (fun _ _ h => h) (frz_g ng) ds vs e2⟩
              | dct ds =>
                rcases t' with ⟨kvs, e1, e2⟩ | ⟨kvs, e1, e2⟩
                · exact .inl ⟨kvs, e1, RpK.up (fun _ _ h => h) (frz_g ng) ds kvs e2⟩
                · exact .inr ⟨kvs, e1, RpT.up (fun _ _ h => h) (frz_g ng) ds kvs e2⟩
              | _ => exact False.elim t'
      · have n : ∀ {j x}, env.put i false d j = some (true, x) → env j = some (true, x) := fun {j x} h => by
          by_cases z : j = i
          · subst z; rw [put_same] at h; cases h
          · rw [put_ne z] at h; exact h
        exact R.dis j m x y c hjk (n hj) (n hk) g1 g2
end

/-! ### statements -/
def kFl (C : Cn) (κ : Kd) (D : Ends) (W : Wd) : Fl → Store → Prop
  | .nx env', st' => ∀ σ' W', SR C env' W' st' σ' → Lat W W' → D.nx σ' W'.H
  | .rt d, st' => ∀ v W', Ext C.W0 W' → C.ok W' st' → C.rk κ C.W0 W' d v → D.rt v W'.H
def TSo (C : Cn) (κ : Kd) (m : Sx) : TS := fun D σ H => ∃ env W st, W.H = H ∧ SR C env W st σ ∧ OutS C (m env st) (kFl C κ D W)
def SS (C : Cn) (κ : Kd) (s : Stmt) (m : Sx) : Prop := PS C.X s (TSo C κ m)
def SSs (C : Cn) (κ : Kd) (ss : List Stmt) (m : Sx) : Prop := PSs C.X ss (TSo C κ m)
theorem PS.imp {X : Cx} {e : Stmt} {t u : TS} (h : PS X e t) (q : ∀ D σ H, u D σ H → t D σ H) : PS X e u := ⟨fun pins s σ H Q I z => h.run pins s σ H Q I (q Q σ H z)⟩
theorem PSs.imp {X : Cx} {e : List Stmt} {t u : TS} (h : PSs X e t) (q : ∀ D σ H, u D σ H → t D σ H) : PSs X e u := ⟨fun pins s σ H Q I z => h.run pins s σ H Q I (q Q σ H z)⟩
theorem PG.imp {X : Cx} {e : Expr} {t u : TG} (h : PG X e t) (q : ∀ v σ H Q, u v σ H Q → t v σ H Q) : PG X e u := ⟨fun pins s σ H v w Q I r z => h.run pins s σ H v w Q I r (q v σ H Q z)⟩
theorem PGs.imp {X : Cx} {e : List Expr} {t u : TGs} (h : PGs X e t) (q : ∀ v σ H Q, u v σ H Q → t v σ H Q) : PGs X e u := ⟨fun pins s σ H v w Q I r z => h.run pins s σ H v w Q I r (q v σ H Q z)⟩
theorem PI.imp {X : Cx} {tg e : Expr} {t u : TI} (h : PI X tg e t) (q : ∀ σ H Q, u σ H Q → t σ H Q) : PI X tg e u := ⟨fun pins s σ H Q I z => h.run pins s σ H Q I (q σ H Q z)⟩
theorem PTs.imp {X : Cx} {e : List Expr} {t u : TT} (h : PTs X e t) (q : ∀ σ H Q, u σ H Q → t σ H Q) : PTs X e u := ⟨fun pins s σ H Q I z => h.run pins s σ H Q I (q σ H Q z)⟩
@[simp] def sNil : Sx := fun env => ret (.nx env)
@[simp] def sSeq (a b : Sx) : Sx := fun env => bnd (a env) fun f => match f with
  | .nx e => b e
  | .rt d => ret (.rt d)
@[simp] def sSet (i : Nat) (m : Ex) : Sx := fun env => bnd (m env) fun d => ret (.nx (env.put i false d))
@[simp] def sOwn (i : Nat) (m : Ex) : Sx := fun env => bnd (m env) fun d => ret (.nx (env.put i true d))
@[simp] def sRet (m : Ex) : Sx := fun env => bnd (m env) fun d => ret (.rt d)
@[simp] def sDrop (m : Ex) : Sx := fun env => bnd (m env) fun _ => ret (.nx env)
@[simp] def sIf (t : Tx) (a b : Sx) : Sx := fun env => bnd (t env) fun c => if c = true then a env else b env
def sFrz (i : Nat) (m : Sx) : Sx := fun env => m (env.frz i)
@[simp] def sNever : Sx := fun _ => halt
section
variable {C : Cn} {κ κe : Kd} {s : Stmt} {ss : List Stmt} {a b m : Sx} {e t : Expr} {me : Ex} {mt : Tx} {pos : Pos} {De : Ends} {W W1 : Wd} {f : Fl} {st : Store} {σ : L2.St} {H : Hp}
theorem kFl.lat (h : kFl C κ De W f st) (l : Lat W W1) : kFl C κ De W1 f st := by
  cases f with
  | nx e => exact fun σ' W' R' l' => h σ' W' R' (l.trans l')
  | rt d => exact h
theorem ss_nil : SSs C κ [] sNil := PSs.imp pss_nil fun D σ H ⟨env, W, st, e, R, o⟩ => by
  subst e
  exact (show kFl C κ D W (.nx env) st from o) σ W R (.refl W)
theorem seq_go (h : TSo C κ (sSeq a b) De σ H) : TSo C κ a { De with nx := TSo C κ b De } σ H := by
  obtain ⟨env, W, st, e, R, o⟩ := h
  refine ⟨env, W, st, e, R, (OutS.bnd o).imp fun f st' o' => ?_⟩
  cases f with
  | nx e' => exact fun σ' W' R' l => ⟨e', W', st', rfl, R', o'.imp fun g st2 h => h.lat l⟩
  | rt d => exact fun v W' x k r => (show kFl C κ De W (.rt d) st' from o') v W' x k r
theorem ss_cons (h1 : SS C κ s a) (h2 : SSs C κ ss b) : SSs C κ (s :: ss) (sSeq a b) := PSs.imp (pss_cons h1 h2) fun D σ H h => seq_go h
theorem ss_one (h1 : SS C κ s a) : SSs C κ [s] a := pss_one h1
theorem ss_pass : SS C κ (.Pass pos) sNil := PS.imp ps_pass fun D σ H ⟨env, W, st, e, R, o⟩ => by
  subst e
  exact (show kFl C κ D W (.nx env) st from o) σ W R (.refl W)
theorem ss_never : SSs C κ ss sNever := PSs.imp pss_never fun D σ H ⟨_, _, _, _, _, o⟩ => o
theorem ss_never1 : SS C κ s sNever := PS.imp ps_never fun D σ H ⟨_, _, _, _, _, o⟩ => o
/-- an expression first -/
theorem te_of {Q : V → Hp → Prop} {k : D → M Fl} {env : En} (R : SR C env W st σ) (o : OutS C (bnd (me env) k st) (kFl C κ De W))
    (h : ∀ d st' v W', Ext W W' → C.ok W' st' → C.rk κe W W' d v → OutS C (k d st') (kFl C κ De W) → Q v W'.H) : TEo C κe me σ W.H Q :=
  ⟨env, W, st, rfl, R, ((OutS.bnd o).out R.ext).imp fun d st' o' v W' e' k' r' => h d st' v W' e' k' r' o'⟩
theorem ss_ret (he : SE C κe e me) (hk : ∀ {W W' : Wd} {d : D} {v : V}, Ext C.W0 W → C.rk κe W W' d v → C.rk κ C.W0 W' d v) : SS C κ (.Return (some e) pos) (sRet me) :=
  PS.imp (ps_ret he) fun D σ H ⟨env, W, st, e, R, o⟩ => by
    subst e
    exact te_of R o fun d st' v W' e' k' r' o' => (show kFl C κ D W (.rt d) st' from o') v W' (R.ext.trans e') k' (hk R.ext r')
theorem ss_retF (he : SE C .froz e me) : SS C .froz (.Return (some e) pos) (sRet me) := ss_ret he fun _ r => r
theorem ss_retN (he : SE C .fresh e me) : SS C .fresh (.Return (some e) pos) (sRet me) := ss_ret he fun e r => RK.down (κ := .fresh) e r
theorem ss_drop (he : SE C κe e me) (hs : swapsWith e none pos.line C.X.env = pure false := by rfl) : SS C κ (.Expr e pos) (sDrop me) :=
  PS.imp (ps_expr he hs) fun D σ H ⟨env, W, st, e, R, o⟩ => by
    subst e
    exact te_of (κe := κe) R o fun d st' v W' e' k' r' o' => (show kFl C κ D W (.nx env) st' from o') σ W' (R.up e' k') e'.lat
theorem ss_if (ht : ST C t mt) {as bs : List Stmt} (ha : SSs C κ as a) (hb : SSs C κ bs b) : SS C κ (.If t as bs pos) (sIf mt a b) :=
  PS.imp (ps_if ht ha hb) fun D σ H ⟨env, W, st, e, R, o⟩ => by
    subst e
    refine ⟨env, W, st, rfl, R, ((OutS.bnd o).out R.ext).imp fun c st' o' W' e' k' => ?_⟩
    by_cases z : c = true
    · rw [if_pos z] at o' ⊢
      exact ⟨env, W', st', rfl, R.up e' k', o'.imp fun g st2 h => h.lat e'.lat⟩
    · rw [if_neg z] at o' ⊢
      exact ⟨env, W', st', rfl, R.up e' k', o'.imp fun g st2 h => h.lat e'.lat⟩
theorem frz_go {i : Nat} (h : TSo C κ (sFrz i m) De σ H) : TSo C κ m De σ H := by
  obtain ⟨env, W, st, e, R, o⟩ := h
  obtain ⟨W', h1, l, R'⟩ := R.frz (i := i)
  exact ⟨env.frz i, W', st, h1.trans e, R', o.imp fun g st2 h => h.lat l⟩
theorem ss_frz {i : Nat} (h : SS C κ s m) : SS C κ s (sFrz i m) := PS.imp h fun D σ H => frz_go
theorem ss_frzs {i : Nat} (h : SSs C κ ss m) : SSs C κ ss (sFrz i m) := PSs.imp h fun D σ H => frz_go
/-- a plain local name -/
structure Nm (C : Cn) (i : Nat) (x : Str) : Prop where
  nod : C.X.N.Nodup
  at_ : C.X.N[i]? = some x
  loc : Loc C.X.env.scope x
  fn : C.X.fn x = true ∨ C.X.env.scope.names.lookup x = some .local
theorem Nm.lt {i : Nat} {x : Str} (n : Nm C i x) : i < C.X.N.length := by
  by_cases q : i < C.X.N.length
  · exact q
  · have := n.at_
    rw [List.getElem?_eq_none (by omega)] at this
    cases this
theorem asg_go {i : Nat} {x : Str} (n : Nm C i x) (h : TSo C κ (sSet i me) De σ H) : tAsg (TEo C .froz me) (gName i) De σ H := by
  obtain ⟨env, W, st, e, R, o⟩ := h
  subst e
  exact te_of (κe := .froz) R o fun d st' v W' e' k' r' o' => (show kFl C κ De W (.nx (env.put i false d)) st' from o') _ W' ((R.up e' k').put n.lt r') e'.lat
theorem own_go {i : Nat} {x : Str} (n : Nm C i x) (h : TSo C κ (sOwn i me) De σ H) : tAsg (TEo C .fresh me) (gName i) De σ H := by
  obtain ⟨env, W, st, e, R, o⟩ := h
  subst e
  exact te_of (κe := .fresh) R o fun d st' v W' e' k' r' o' => (show kFl C κ De W (.nx (env.put i true d)) st' from o') _ W' (R.putOwn e' k' n.lt r') e'.lat
/-- a fresh value, frozen as it is stored -/
theorem frz_own {i : Nat} {x : Str} (n : Nm C i x) (h : TSo C κ (sSet i me) De σ H) : tAsg (TEo C .fresh me) (gName i) De σ H := by
  obtain ⟨env, W, st, e, R, o⟩ := h
  subst e
  refine te_of (κe := .fresh) R o fun d st' v W' e' k' r' o' => ?_
  obtain ⟨a, ev, n0, ng, na, t⟩ := r'
  subst ev
  exact (show kFl C κ De W (.nx (env.put i false d)) st' from o') _ (W'.frz a) ((R.up (frz_ext e' n0 ng) (frz_ok k' ng na)).put n.lt (frz_rp ng t)) (e'.lat.trans (frz_lat ng))
theorem ss_set {i : Nat} {x : Str} {pos' : Pos} (n : Nm C i x) (he : SE C .froz e me) (hs : swapsWith e (some (.Name x pos')) pos.line C.X.env = pure false := by rfl) : SS C κ (.Assign [.Name x pos'] e pos) (sSet i me) :=
  PS.imp (ps_set n.nod n.at_ n.loc he hs n.fn) fun D σ H => asg_go n
theorem ss_own {i : Nat} {x : Str} {pos' : Pos} (n : Nm C i x) (he : SE C .fresh e me) (hs : swapsWith e (some (.Name x pos')) pos.line C.X.env = pure false := by rfl) : SS C κ (.Assign [.Name x pos'] e pos) (sOwn i me) :=
  PS.imp (ps_set n.nod n.at_ n.loc he hs n.fn) fun D σ H => own_go n
end

/-! ### targets -/
@[simp] def gNm (i : Nat) : Gx := fun d e => some (e.put i false d)
@[simp] def gNl : List D → En → Option En := fun ds e => match ds with
  | [] => some e
  | _ => none
@[simp] def gCs (g : Gx) (r : List D → En → Option En) : List D → En → Option En := fun ds e => match ds with
  | d :: ds => (g d e).bind (r ds)
  | [] => none
@[simp] def gTp (g : List D → En → Option En) : Gx := fun d e => match d with
  | .tup ds => g ds e
  | _ => none
/-- the slots outside vs are let alone -/
def Only (vs : List Nat) (σ σ' : L2.St) : Prop := σ'.length = σ.length ∧ ∀ i, i ∉ vs → σ'[i]? = σ[i]?
theorem Only.refl {vs : List Nat} {σ : L2.St} : Only vs σ σ := ⟨rfl, fun _ _ => rfl⟩
theorem Only.trans {vs ws : List Nat} {σ σ' σ2 : L2.St} (h : Only vs σ σ') (g : Only ws σ' σ2) : Only (vs ++ ws) σ σ2 :=
  ⟨g.1.trans h.1, fun i n => (g.2 i fun z => n (List.mem_append_right _ z)).trans (h.2 i fun z => n (List.mem_append_left _ z))⟩
theorem wipe_get {σ : L2.St} : ∀ (vs : List Nat) (i : Nat), (wipe σ vs)[i]? = if i ∈ vs ∧ i < σ.length then some none else σ[i]?
  | [], i => by simp [wipe]
  | v :: vs, i => by
    unfold wipe
    by_cases q : v = i
    · subst q
      by_cases z : v < σ.length
      · rw [List.getElem?_set_self (by rw [wipe_length]; exact z), if_pos ⟨by simp, z⟩]
      · rw [List.getElem?_eq_none (by rw [List.length_set, wipe_length]; omega), if_neg (fun h => z h.2), List.getElem?_eq_none (by omega)]
    · rw [List.getElem?_set_ne q, wipe_get vs i]
      by_cases z : i ∈ vs ∧ i < σ.length
      · rw [if_pos z, if_pos ⟨List.mem_cons_of_mem _ z.1, z.2⟩]
      · rw [if_neg z, if_neg fun h => z ⟨(List.mem_cons.mp h.1).resolve_left (Ne.symm q), h.2⟩]
theorem Only.wipe {is vs : List Nat} {σ σ' : L2.St} (h : Only is σ σ') (s : ∀ i ∈ is, i ∈ vs) : wipe σ' vs = wipe σ vs := by
  refine List.ext_getElem? fun i => ?_
  rw [wipe_get, wipe_get, h.1]
  by_cases q : i ∈ vs
  · by_cases z : i < σ.length
    · rw [if_pos ⟨q, z⟩, if_pos ⟨q, z⟩]
    · rw [if_neg fun h => z h.2, if_neg fun h => z h.2, List.getElem?_eq_none (by rw [h.1]; omega), List.getElem?_eq_none (by omega)]
  · rw [if_neg fun h => q h.1, if_neg fun h => q h.1, h.2 i fun z => q (s i z)]
def TGo (C : Cn) (is : List Nat) (g : Gx) : TG := fun v σ H Q => ∃ env W st d env', W.H = H ∧ SR C env W st σ ∧ C.rp W d v ∧ g d env = some env' ∧ ∀ σ', SR C env' W st σ' → Only is σ σ' → Q σ' H
def TGso (C : Cn) (is : List Nat) (g : List D → En → Option En) : TGs := fun vs σ H Q => ∃ env W st ds env', W.H = H ∧ SR C env W st σ ∧ RpL C.X.K C.X.mg W.as W.G ds vs ∧ g ds env = some env' ∧ ∀ σ', SR C env' W st σ' → Only is σ σ' → Q σ' H
def SG (C : Cn) (is : List Nat) (e : Expr) (g : Gx) : Prop := PG C.X e (TGo C is g)
def SGs (C : Cn) (is : List Nat) (es : List Expr) (g : List D → En → Option En) : Prop := PGs C.X es (TGso C is g)
section
variable {C : Cn} {is js : List Nat} {e : Expr} {es : List Expr} {g : Gx} {gs : List D → En → Option En} {pos : Pos}
theorem sg_nm {i : Nat} {x : Str} (n : Nm C i x) : SG C [i] (.Name x pos) (gNm i) :=
  PG.imp (pg_name n.nod n.at_ n.loc n.fn) fun v σ H Q ⟨env, W, st, d, env', e, R, r, hg, h⟩ => by
    cases hg
    exact h _ (R.put n.lt r) ⟨List.length_set, fun j hj => List.getElem?_set_ne (fun z => hj (by simp [z]))⟩
theorem sg_nil : SGs C [] [] gNl := PGs.imp pgs_nil fun v σ H Q ⟨env, W, st, ds, env', e, R, r, hg, h⟩ => by
  cases ds with
  | nil =>
    simp only [RpL] at r
    subst r
    cases hg
    exact ⟨rfl, h _ R .refl⟩
  | cons d ds => cases hg
theorem sg_cons (h1 : SG C is e g) (h2 : SGs C js es gs) (hs : (assignEach (e :: es) C.X.env).map (·.2) = assign e C.X.env :: (assignEach es C.X.env).map (·.2) := by rfl) {ks : List Nat} (hk : is ++ js = ks := by rfl) : SGs C ks (e :: es) (gCs g gs) := by
  subst hk
  exact PGs.imp (pgs_cons h1 h2 hs) fun v σ H Q ⟨env, W, st, ds, env', e, R, r, hg, h⟩ => by
    cases ds with
    | nil => cases hg
    | cons d ds =>
      simp only [RpL] at r
      obtain ⟨v0, vr, ev, r1, r2⟩ := r
      have hg' : (g d env).bind (gs ds) = some env' := hg
      cases q : g d env with
      | none => rw [q] at hg'; cases hg'
      | some env1 =>
        rw [q] at hg'
        exact ⟨v0, vr, ev, env, W, st, d, env1, e, R, r1, q, fun σ1 R1 o1 => ⟨env1, W, st, ds, env', e, R1, r2, hg', fun σ2 R2 o2 => h σ2 R2 (o1.trans o2)⟩⟩
theorem sg_tup {k n : Nat} (hc : C.X.calm = true) (h : SGs C is es gs) (hl : ∀ ds env env', gs ds env = some env' → ds.length = n) (hn : (assignEach es C.X.env).length = n := by rfl) (hst : (assignEach es C.X.env).findIdx? (·.1) = none := by rfl) : SG C is (.Tuple es k pos) (gTp gs) :=
  PG.imp (pg_tup hc h hn hst) fun v σ H Q ⟨env, W, st, d, env', e, R, r, hg, h⟩ => by
    cases d with
    | tup ds =>
      have hg' : gs ds env = some env' := hg
      simp only [Rp] at r
      obtain ⟨a, xs, ev, sq, _, l⟩ := r
      exact ⟨a, xs, ev, (by rw [← e]; exact SqT.up R.ok.sub sq), by rw [← l.len]; exact hl _ _ _ hg', env, W, st, ds, env', e, R, l, hg', h⟩
    | _ => cases hg
end
/-- target = value -/
@[simp] def sAsg (g : Gx) (m : Ex) : Sx := fun env => bnd (m env) fun d => match g d env with
  | some e' => ret (.nx e')
  | none => halt
section
variable {C : Cn} {κ : Kd} {is : List Nat} {tg e : Expr} {g : Gx} {me : Ex} {pos : Pos}
theorem ss_asg (he : SE C .froz e me) (hg : SG C is tg g) (hs : swapsWithSole [tg] e pos.line C.X.env = pure false := by rfl) (hw : swappedStores [tg] e C.X.env = pure none := by rfl)
    (h1 : (assignEach [tg] C.X.env).map (·.2) = [assign tg C.X.env] := by rfl) : SS C κ (.Assign [tg] e pos) (sAsg g me) :=
  PS.imp (ps_asg he hg hs hw h1) fun D σ H ⟨env, W, st, e, R, o⟩ => by
    subst e
    refine te_of (κe := .froz) R o fun d st' v W' e' k' r' o' => ?_
    cases q : g d env with
    | none => rw [q] at o'; exact False.elim o'
    | some env' =>
      rw [q] at o'
      exact ⟨env, W', st', d, env', rfl, R.up e' k', r', q, fun σ' R' _ => (show kFl C κ D W (.nx env') st' from o') σ' W' R' e'.lat⟩
end
/-- a, b = x, y of plain local names -/
@[simp] def sPar (i j : Nat) (m : Lx) : Sx := fun env => bnd (m env) fun ds => match ds with
  | [x, y] => ret (.nx ((env.put i false x).put j false y))
  | _ => halt
section
variable {C : Cn} {κ : Kd} {i j : Nat} {x y : Str} {a b : Expr} {ml : Lx} {px py pt pos : Pos} {kt k2 : _} {pt2 : _}
theorem ss_par (hc : C.X.calm = true) (n : Nm C i x) (n' : Nm C j y) (hij : i ≠ j) (hx : C.X.env.scope.names.lookup x = some .local) (hy : C.X.env.scope.names.lookup y = some .local) (ha : SA C [a, b] ml)
    (hw : swappedStores [.Tuple [.Name x px, .Name y py] kt pt] (.Tuple [a, b] k2 pt2) C.X.env = pure (some [x, y]))
    (hs : swapsWithSole [.Tuple [.Name x px, .Name y py] kt pt] (.Tuple [a, b] k2 pt2) pos.line C.X.env = pure false := by rfl) :
    SS C κ (.Assign [.Tuple [.Name x px, .Name y py] kt pt] (.Tuple [a, b] k2 pt2) pos) (sPar i j ml) :=
  PS.imp (ps_par hc n.nod n.at_ n'.at_ hij hx hy ha hw hs) fun D σ H ⟨env, W, st, e, R, o⟩ => by
    subst e
    refine ⟨env, W, st, rfl, R, ((OutS.bnd o).out R.ext).imp fun ds st' o' vs W' e' k' r' => ?_⟩
    match ds, r', o' with
    | [d1, d2], r', o' =>
      simp only [RpL] at r'
      obtain ⟨v1, _, rfl, r1, v2, _, rfl, r2, rfl⟩ := r'
      exact ⟨v1, v2, rfl, (show kFl C κ D W (.nx _) st' from o') _ W' (((R.up e' k').put n.lt r1).put n'.lt r2) e'.lat⟩
    | [], _, o' => exact False.elim o'
    | [_], _, o' => exact False.elim o'
    | _ :: _ :: _ :: _, _, o' => exact False.elim o'
end

/-! ### what is walked -/
/-- the iterator J gives the data ds -/
def WalkD (C : Cn) (W1 : Wd) (J : It) (ds : List D) : Prop := ∃ G Y, Walk J ds.length G Y ∧ (∀ W st, Lat W1 W → C.ok W st → G W.H) ∧
  ∀ i W st x H', i < ds.length → Lat W1 W → C.ok W st → Y i W.H x H' → ∃ W' d, W'.H = H' ∧ Ext W W' ∧ C.ok W' st ∧ ds[i]? = some d ∧ C.rp W' d x
def TIo (C : Cn) (m : Lx) : TI := fun σ H Q => ∃ env W st, W.H = H ∧ SR C env W st σ ∧ Out C σ W (m env st) fun ds st' => ∀ J W', Ext W W' → C.ok W' st' → WalkD C W' J ds → Q J W'.H
def SI (C : Cn) (tg e : Expr) (m : Lx) : Prop := PI C.X tg e (TIo C m)
def forS (g : Gx) (b : Sx) : List D → En → M Fl
  | [], env => ret (.nx env)
  | d :: ds, env => match g d env with
    | none => halt
    | some e1 => bnd (b e1) fun f => match f with
      | .nx e2 => forS g b ds e2
      | .rt d => ret (.rt d)
def sFor (it : Lx) (g : Gx) (b : Sx) : Sx := fun env => bnd (it env) fun ds => forS g b ds env
section
variable {C : Cn} {κ : Kd} {is : List Nat} {tg iter : Expr} {body : List Stmt} {mi : Lx} {g : Gx} {mb : Sx} {pos : Pos}
theorem ss_for (hp : PassesOwn (model C.X.prog C.X.w) C.X.A C.X.env C.X.xe) (hc : C.X.calm = true) (hi : SI C tg iter mi) (hg : SG C is tg g) (hb : SSs C κ body mb)
    (hs : ∀ x, foldedSetIterable iter C.X.env x = pure x := by intro _; rfl) : SS C κ (.For tg iter body [] pos) (sFor mi g mb) :=
  PS.imp (ps_for hp hc hi hg hb hs) fun D σ H ⟨env, W, st, e, R, o⟩ => by
    subst e
    refine ⟨env, W, st, rfl, R, ((OutS.bnd o).out R.ext).imp fun ds st' o' J W' e' k' wd => ?_⟩
    obtain ⟨G, Y, wk, hG, hY⟩ := wd
    refine for_it wk (fun i σ H => ∃ env1 W1 st1, W1.H = H ∧ SR C env1 W1 st1 σ ∧ Lat W' W1 ∧ OutS C (forS g mb (ds.drop i) env1 st1) (kFl C κ D W1)) ⟨env, W', st', rfl, R.up e' k', .refl _, o'.imp fun f s h => h.lat e'.lat⟩
      (fun i σ1 H1 _ ⟨env1, W1, st1, h1, R1, l1, _⟩ => by rw [← h1]; exact hG W1 st1 l1 R1.ok) (fun i x σ1 H1 H2 hlt ⟨env1, W1, st1, h1, R1, l1, o1⟩ y => ?_) fun σ1 H1 ⟨env1, W1, st1, h1, R1, l1, o1⟩ => ?_
    · subst h1
      obtain ⟨W2, d, h2, e2, k2, hd, r2⟩ := hY i W1 st1 x H2 hlt l1 R1.ok y
      subst h2
      have hdr : ds.drop i = d :: ds.drop (i + 1) := by
        rw [List.drop_eq_getElem_cons hlt]
        have := List.getElem?_eq_getElem hlt
        rw [hd] at this
        rw [← Option.some.inj this]
      rw [hdr] at o1
      unfold forS at o1
      cases q : g d env1 with
      | none => rw [q] at o1; exact False.elim o1
      | some env2 =>
        rw [q] at o1
        have R2 := R1.up e2 k2
        refine ⟨env1, W2, st1, d, env2, rfl, R2, r2, q, fun σ3 R3 _ => ⟨env2, W2, st1, rfl, R3, (OutS.bnd o1).imp fun f st4 o4 => ?_⟩⟩
        cases f with
        | nx env4 => exact fun σ4 W4 R4 l4 => ⟨env4, W4, st4, rfl, R4, (l1.trans e2.lat).trans l4, o4.imp fun f s h => h.lat (e2.lat.trans l4)⟩
        | rt d4 => exact fun v W4 x4 k4 r4 => (show kFl C κ D W1 (.rt d4) st4 from o4) v W4 x4 k4 r4
    · subst h1
      rw [List.drop_of_length_le (Nat.le_refl _)] at o1
      exact (show kFl C κ D W1 (.nx env1) st1 from o1) σ1 W1 R1 (.refl W1)
end

/-! ### comprehensions -/
/-- within a comprehension nothing is raised -/
def quiet {α : Type} (m : M α) : M α := fun s => match m s with
  | .ok a s' => .ok a s'
  | _ => .stuck
def lcS (g : Gx) (t : Tx) (m : Ex) : List D → En → M (List D)
  | [], _ => ret []
  | d :: ds, env => match g d env with
    | none => halt
    | some e1 => bnd (t e1) fun b => if b = true then bnd (m e1) fun y => bnd (lcS g t m ds env) fun ys => ret (y :: ys) else lcS g t m ds env
@[simp] def En.clr (e : En) (vs : List Nat) : En := fun i => if i ∈ vs then none else e i
def eLc (vs : List Nat) (it : Lx) (g : Gx) (t : Tx) (m : Ex) : Ex := fun env => bnd (it env) fun ds => if ds.length ≤ line then quiet (bnd (lcS g t m ds (env.clr vs)) fun ys => ret (.lst ys)) else halt
@[simp] def tYesS : Tx := fun _ => ret true
/-- the block's context -/
def Cn.blk (C : Cn) (s : Shared) (H : Hp) (scope : Scope) (Cl : Addr) (cl : List (Str × Addr)) (fp : List Addr) : Cn := { X := C.X.blk s H scope (compEnvC scope cl Cl C.X.env) fp, W0 := C.W0, Wx := fun _ _ _ _ => False }
def SBE (C : Cn) (scope : Scope) (κ : Kd) (e : Expr) (m : Ex) : Prop := ∀ (s : Shared) (H : Hp) (Cl : Addr) (cl : List (Str × Addr)) (fp : List Addr), SE (C.blk s H scope Cl cl fp) κ e m
/-- the clause's tests -/
def STs (C : Cn) (es : List Expr) (m : Tx) : Prop := PTs C.X es (TTo C m)
theorem sts_nil {C : Cn} : STs C [] tYesS := PTs.imp pts_nil fun σ H Q ⟨env, W, st, e, R, o⟩ => by
  subst e
  exact (show (∀ W', Ext W W' → C.ok W' st → Q true W'.H) from o) W (.refl W) R.ok
theorem sts_one {C : Cn} {c : Expr} {t : Tx} (h : ST C c t) : STs C [c] t := pts_one h
theorem quiet_bnd {C' C : Cn} {α β : Type} {σ σ' : L2.St} {W W' : Wd} {m : M α} {f : α → M β} {st : Store} {k : β → Store → Prop} (o : Out C σ W (quiet (bnd m f) st) k) : Out C' σ' W' (m st) fun a st' => Out C σ W (quiet (f a) st') k := by
  unfold quiet bnd at o
  cases q : m st with
  | ok a st' => rw [q] at o; exact o
  | exc c fs st' => rw [q] at o; exact False.elim o
  | stuck => rw [q] at o; exact False.elim o
theorem Out.quiet {C : Cn} {α : Type} {σ : L2.St} {W : Wd} {m : M α} {st : Store} {k : α → Store → Prop} (o : Out C σ W (quiet m st) k) : ∃ a st', m st = .ok a st' ∧ k a st' := by
  unfold Sm.quiet at o
  cases q : m st with
  | ok a st' => rw [q] at o; exact ⟨a, st', rfl, o⟩
  | exc c fs st' => rw [q] at o; exact False.elim o
  | stuck => rw [q] at o; exact False.elim o
theorem bnd_ok {α β : Type} {m : M α} {f : α → M β} {st st2 : Store} {b : β} (h : bnd m f st = .ok b st2) : ∃ a st1, m st = .ok a st1 ∧ f a st1 = .ok b st2 := by
  unfold bnd at h
  cases q : m st with
  | ok a st1 => rw [q] at h; exact ⟨a, st1, rfl, h⟩
  | exc c fs s => rw [q] at h; cases h
  | stuck => rw [q] at h; cases h
theorem Out.of_ok {C : Cn} {α : Type} {σ : L2.St} {W : Wd} {r : Res α} {a : α} {st : Store} {k : α → Store → Prop} (h : r = .ok a st) (q : k a st) : Out C σ W r k := by
  subst h; exact q
theorem SR.clr {C : Cn} {env : En} {W : Wd} {st : Store} {σ : L2.St} {vs : List Nat} (R : SR C env W st σ) : SR C (env.clr vs) W st (wipe σ vs) := by
  have n : ∀ {i x}, env.clr vs i = some x → i ∉ vs ∧ env i = some x := fun {i x} h => by
    unfold En.clr at h
    by_cases q : i ∈ vs
    · rw [if_pos q] at h; cases h
    · rw [if_neg q] at h; exact ⟨q, h⟩
  refine ⟨R.ext, by rw [wipe_length, R.len], R.ok, fun i b d h => ?_, fun i j d e a hn h1 h2 g1 g2 => ?_⟩
  · obtain ⟨q, h⟩ := n h
    obtain ⟨v, h1, h2⟩ := R.slot i b d h
    exact ⟨v, by rw [wipe_get, if_neg fun z => q z.1]; exact h1, h2⟩
  · exact R.dis i j d e a hn (n h1).2 (n h2).2 (wipe_some g1).1 (wipe_some g2).1
theorem wipe_wipe {σ : L2.St} {vs : List Nat} : wipe (wipe σ vs) vs = wipe σ vs := by
  refine List.ext_getElem? fun i => ?_
  rw [wipe_get, wipe_get, wipe_length]
  by_cases q : i ∈ vs ∧ i < σ.length
  · rw [if_pos q, if_pos q]
  · rw [if_neg q, if_neg q]
section
variable {K : PySem.W.Frag} {mg : Str → Option Value} {W W0 : Wd} {st : Store} {p : Addr} {o : HO}
theorem set_ok (k : W.Ok K mg st) (ng : W.G p = none) (na : p ∉ W.as) : (W.new p o).Ok K mg st := by
  refine ⟨fun a u h => ?_, k.nod, k.dis, k.len, fun i ds h => ?_⟩
  · show upd W.H p o a = some u
    have h' : W.G a = some u := h
    rw [upd_ne (show a ≠ p from fun z => by rw [z, ng] at h'; cases h')]
    exact k.sub a u h
  · obtain ⟨a, vs, h1, h2, h3⟩ := k.cel i ds h
    refine ⟨a, vs, h1, ?_, h3⟩
    show upd W.H p o a = some _
    rw [upd_ne (show a ≠ p from fun z => na (z ▸ List.mem_of_getElem? h1))]
    exact h2
theorem set_ext (e : Ext W0 W) (n0 : W0.H p = none) : Ext W0 (W.new p o) := by
  refine ⟨e.g, e.gn, e.as, e.asn, fun a u h n => ?_, fun a h => ?_⟩
  · show upd W.H p o a = some u
    rw [upd_ne (show a ≠ p from fun z => by rw [z, n0] at h; cases h)]
    exact e.h a u h n
  · have h' : upd W.H p o a = none := h
    by_cases z : a = p
    · rw [z]; exact n0
    · rw [upd_ne z] at h'; exact e.hn a h'
theorem set_lat : Lat W (W.new p o) := ⟨fun _ _ h => h, ⟨[], by show W.as = W.as ++ []; simp⟩⟩
end
/-- the context of blocks, at the expression -/
def Cn.inn (C : Cn) : Cn := { C with Wx := fun _ _ _ _ => False }
section
variable {C : Cn} {env : En} {W : Wd} {st : Store} {σ : L2.St} {s : Shared} {H : Hp} {scope : Scope} {Cl : Addr} {cl : List (Str × Addr)} {fp : List Addr}
theorem SR.toBlk (R : SR C.inn env W st σ) : SR (C.blk s H scope Cl cl fp) env W st σ := ⟨R.ext, R.len, R.ok, R.slot, R.dis⟩
theorem SR.ofBlk (R : SR (C.blk s H scope Cl cl fp) env W st σ) : SR C.inn env W st σ := ⟨R.ext, R.len, R.ok, R.slot, R.dis⟩
theorem SR.toInn (R : SR C env W st σ) : SR C.inn env W st σ := ⟨R.ext, R.len, R.ok, R.slot, R.dis⟩
theorem Out.toBlk {α : Type} {r : Res α} {k : α → Store → Prop} (o : Out C.inn σ W r k) : Out (C.blk s H scope Cl cl fp) σ W r k := by
  cases r with
  | ok a st => exact o
  | exc c fs st => exact o
  | stuck => exact o
theorem blk_g {is : List Nat} {tg : Expr} {g : Gx} (h : SG (C.blk s H scope Cl cl fp) is tg g) : PG (C.X.blk s H scope (compEnvC scope cl Cl C.X.env) fp) tg (TGo C.inn is g) :=
  PG.imp h fun v σ H Q ⟨env, W, st, d, env', e, R, r, hg, q⟩ => ⟨env, W, st, d, env', e, R.toBlk, r, hg, fun σ' R' o => q σ' R'.ofBlk o⟩
theorem blk_t {es : List Expr} {m : Tx} (h : STs (C.blk s H scope Cl cl fp) es m) : PTs (C.X.blk s H scope (compEnvC scope cl Cl C.X.env) fp) es (TTo C.inn m) :=
  PTs.imp h fun σ H Q ⟨env, W, st, e, R, o⟩ => ⟨env, W, st, e, R.toBlk, o.toBlk⟩
theorem blk_e {κ : Kd} {e : Expr} {m : Ex} (h : SE (C.blk s H scope Cl cl fp) κ e m) : PE (C.X.blk s H scope (compEnvC scope cl Cl C.X.env) fp) e (TEo C.inn κ m) :=
  PE.imp h fun σ H Q ⟨env, W, st, e, R, o⟩ => ⟨env, W, st, e, R.toBlk, o.toBlk⟩
end
section
variable {C : Cn} {is : List Nat} {tg iter elt : Expr} {ifs : List Expr} {mi : Lx} {g : Gx} {mt : Tx} {me : Ex} {scope : Scope} {own : List (Str × Nat)} {pos : Pos} {σ : L2.St} {H : Hp} {Q : VK}
theorem lc_go (hsub : ∀ i ∈ is, i ∈ own.map (·.2)) (h : TEo C .fresh (eLc (own.map (·.2)) mi g mt me) σ H Q) : tLc (TIo C mi) (TGo C.inn is g) (TTo C.inn mt) (TEo C.inn .froz me) (own.map (·.2)) σ H Q := by
  obtain ⟨env, W, st, e, R, o⟩ := h
  subst e
  refine ⟨env, W, st, rfl, R, (Out.bnd o).imp fun ds st1 o1 J W1 e1 k1 wd => ?_⟩
  intro L hL
  by_cases hlen : ds.length ≤ line
  · rw [if_pos hlen] at o1
    obtain ⟨dres, stE, hq, hk⟩ := Out.quiet o1
    obtain ⟨ysE, st2, hq, hr⟩ := bnd_ok hq
    cases hr
    obtain ⟨G, Y, wk, hG, hY⟩ := wd
    have at1 : ∀ {W2 : Wd}, Ext W1 W2 → L ∉ W2.as → W2.G L = none → True := fun _ _ _ => trivial
    refine lc_it wk (fun i H => ∃ W2 st2 acc accV ys, W2.H = H ∧ Ext W1 W2 ∧ C.ok W2 st2 ∧ L ∉ W2.as ∧ W2.G L = none ∧ W2.H L = some (.lst accV) ∧ RpL C.X.K C.X.mg W2.as W2.G acc accV ∧ accV.length ≤ i ∧
        lcS g mt me (ds.drop i) (env.clr (own.map (·.2))) st2 = .ok ys stE ∧ acc ++ ys = ysE) ?_ (fun i H _ ⟨W2, st2, acc, accV, ys, h1, e2, k2, _⟩ => by rw [← h1]; exact hG W2 st2 e2.lat k2) ?_ ?_
    · exact ⟨W1.new L (.lst []), st1, [], [], ysE, rfl, new_ext hL, new_ok k1 hL, new_as k1 hL, new_g k1 hL, upd_same, by simp [RpL], Nat.zero_le _, hq, rfl⟩
    · rintro i x H2 H3 hlt ⟨W2, st2, acc, accV, ys, h1, e2, k2, nL, gL, aL, rL, lL, hlc, hys⟩ y
      subst h1
      obtain ⟨W3, d, h3, e3, k3, hd, r3⟩ := hY i W2 st2 x H3 hlt e2.lat k2 y
      subst h3
      have hdr : ds.drop i = d :: ds.drop (i + 1) := by
        rw [List.drop_eq_getElem_cons hlt]
        have := List.getElem?_eq_getElem hlt
        rw [hd] at this
        rw [← Option.some.inj this]
      rw [hdr] at hlc
      unfold lcS at hlc
      cases qg : g d (env.clr (own.map (·.2))) with
      | none => rw [qg] at hlc; cases hlc
      | some env1 =>
        rw [qg] at hlc
        obtain ⟨b, st3, ht, hlc⟩ := bnd_ok hlc
        have R3 : SR C.inn (env.clr (own.map (·.2))) W3 st2 (wipe σ (own.map (·.2))) := ((R.up ((e1.trans e2).trans e3) k3).clr).toInn
        have step : ∀ {W4 : Wd}, Ext W3 W4 → L ∉ W4.as ∧ W4.G L = none ∧ W4.H L = some (.lst accV) ∧ RpL C.X.K C.X.mg W4.as W4.G acc accV ∧ Ext W1 W4 := fun {W4} e4 => by
          have e24 := e3.trans e4
          refine ⟨notas e24 (by rw [aL]; intro z; cases z) nL, ?_, e24.h L _ aL nL, RpL.up e24.pre e24.g _ _ rL, e2.trans e24⟩
          cases z : W4.G L with
          | none => rfl
          | some u => exact absurd (e24.gn L gL (by rw [z]; intro q; cases q)) (by rw [aL]; intro q; cases q)
        refine ⟨_, W3, st2, d, env1, rfl, R3, r3, qg, fun σ2 R4 on => ⟨by rw [on.wipe hsub, wipe_wipe], env1, W3, st2, rfl, R4, Out.of_ok ht fun W4 e4 k4 => ?_⟩⟩
        obtain ⟨n4, g4, a4, r4, e14⟩ := step e4
        by_cases hb : b = true
        · rw [if_pos hb] at hlc ⊢
          obtain ⟨yv, st4, hm, hlc⟩ := bnd_ok hlc
          obtain ⟨ys', st5, hlc, hr⟩ := bnd_ok hlc
          cases hr
          refine ⟨env1, W4, st3, rfl, R4.up e4 k4, Out.of_ok hm fun v W5 e5 k5 r5 => ?_⟩
          obtain ⟨n5, g5, a5, r5', e15⟩ := step (e4.trans e5)
          refine ⟨accV, a5, by have := line_eq; omega, W5.new L (.lst (accV ++ [v])), st4, acc ++ [yv], accV ++ [v], ys', rfl, set_ext e15 hL, set_ok k5 g5 n5, n5, g5, upd_same, ?_, by simp; omega, hlc, by simpa using hys⟩
          refine RpL.app r5' ?_
          simp only [RpL]
          exact ⟨v, [], rfl, r5, rfl⟩
        · rw [if_neg hb] at hlc ⊢
          exact ⟨W4, st3, acc, accV, ys, rfl, e14, k4, n4, g4, a4, r4, by omega, hlc, hys⟩
    · rintro H2 ⟨W2, st2, acc, accV, ys, h1, e2, k2, nL, gL, aL, rL, lL, hlc, hys⟩
      subst h1
      rw [List.drop_of_length_le (Nat.le_refl _)] at hlc
      cases hlc
      rw [List.append_nil] at hys
      subst hys
      have e02 := e1.trans e2
      exact hk (.ref L) W2 e02 k2 ⟨L, rfl, e1.hn L hL, gL, nL, accV, aL, rL⟩
  · rw [if_neg hlen] at o1; exact False.elim o1
theorem se_lc (hc : C.X.calm = true) (hN : C.X.N.Nodup) (ok : BlkOk C.X.N C.X.env.scope scope own) (hsub : ∀ i ∈ is, i ∈ own.map (·.2)) (hi : SI C tg iter mi)
    (hg : ∀ s H Cl cl fp, SG (C.blk s H scope Cl cl fp) is tg g) (ht : ∀ s H Cl cl fp, STs (C.blk s H scope Cl cl fp) ifs mt) (he : ∀ s H Cl cl fp, SE (C.blk s H scope Cl cl fp) .froz elt me)
    (hs : ∀ x, foldedSetIterable iter C.X.env x = pure x := by intro _; rfl) : SE C .fresh (.ListComp elt [⟨tg, iter, ifs, 0⟩] scope pos) (eLc (own.map (·.2)) mi g mt me) :=
  PE.imp (pe_lc hc hN hi ok (fun s H Cl cl fp => blk_g (hg s H Cl cl fp)) (fun s H Cl cl fp => blk_t (ht s H Cl cl fp)) (fun s H Cl cl fp => blk_e (he s H Cl cl fp)) hs) fun σ H Q => lc_go hsub
/-- name = [..] on one line -/
theorem ss_setLc {κ : Kd} {i : Nat} {y : Str} {py spos : Pos} (n : Nm C i y) (hyl : C.X.env.scope.names.lookup y = some .local) (hc : C.X.calm = true) (hsw : swapsWith (.ListComp elt [⟨tg, iter, ifs, 0⟩] scope pos) (some (.Name y py)) spos.line C.X.env = pure true)
    (ok : BlkOk C.X.N C.X.env.scope scope own) (hsub : ∀ i ∈ is, i ∈ own.map (·.2)) (hi : SI C tg iter mi)
    (hg : ∀ s H Cl cl fp, SG (C.blk s H scope Cl cl fp) is tg g) (ht : ∀ s H Cl cl fp, STs (C.blk s H scope Cl cl fp) ifs mt) (he : ∀ s H Cl cl fp, SE (C.blk s H scope Cl cl fp) .froz elt me)
    (hs : ∀ x, foldedSetIterable iter C.X.env x = pure x := by intro _; rfl) : SS C κ (.Assign [.Name y py] (.ListComp elt [⟨tg, iter, ifs, 0⟩] scope pos) spos) (sSet i (eLc (own.map (·.2)) mi g mt me)) :=
  PS.imp (ps_setLc hc n.nod n.at_ hyl hsw hi ok (fun s H Cl cl fp => blk_g (hg s H Cl cl fp)) (fun s H Cl cl fp => blk_t (ht s H Cl cl fp)) (fun s H Cl cl fp => blk_e (he s H Cl cl fp)) hs) fun De σ H h => by
    obtain ⟨env, W, st, e, R, o⟩ := frz_own n h
    exact lc_go hsub ⟨env, W, st, e, R, o⟩
theorem ss_ownLc {κ : Kd} {i : Nat} {y : Str} {py spos : Pos} (n : Nm C i y) (hyl : C.X.env.scope.names.lookup y = some .local) (hc : C.X.calm = true) (hsw : swapsWith (.ListComp elt [⟨tg, iter, ifs, 0⟩] scope pos) (some (.Name y py)) spos.line C.X.env = pure true)
    (ok : BlkOk C.X.N C.X.env.scope scope own) (hsub : ∀ i ∈ is, i ∈ own.map (·.2)) (hi : SI C tg iter mi)
    (hg : ∀ s H Cl cl fp, SG (C.blk s H scope Cl cl fp) is tg g) (ht : ∀ s H Cl cl fp, STs (C.blk s H scope Cl cl fp) ifs mt) (he : ∀ s H Cl cl fp, SE (C.blk s H scope Cl cl fp) .froz elt me)
    (hs : ∀ x, foldedSetIterable iter C.X.env x = pure x := by intro _; rfl) : SS C κ (.Assign [.Name y py] (.ListComp elt [⟨tg, iter, ifs, 0⟩] scope pos) spos) (sOwn i (eLc (own.map (·.2)) mi g mt me)) :=
  PS.imp (ps_setLc hc n.nod n.at_ hyl hsw hi ok (fun s H Cl cl fp => blk_g (hg s H Cl cl fp)) (fun s H Cl cl fp => blk_t (ht s H Cl cl fp)) (fun s H Cl cl fp => blk_e (he s H Cl cl fp)) hs) fun De σ H h => by
    obtain ⟨env, W, st, e, R, o⟩ := own_go n h
    exact lc_go hsub ⟨env, W, st, e, R, o⟩
end
end Sm


set_option Elab.async false
set_option linter.all false
set_option maxRecDepth 100000
set_option maxHeartbeats 1000000
/-! Sm6: what is walked: lists, tuples, texts, ranges, enumerate, zip. -/
namespace Sm
open PySem PySem.Spec L2

/-- a thing that an iterator goes through -/
inductive Src where
  | lst (a : Addr) | tup (a : Addr) | txt (x : Str)
def Src.has (K : PySem.W.Frag) (H : Hp) (i : Nat) (v : V) : Src → Prop
  | .lst a => ∃ xs, SqL K H a xs ∧ xs[i]? = some v
  | .tup a => ∃ xs, SqT K H a xs ∧ xs[i]? = some v
  | .txt x => ∃ c, x.cps[i]? = some c ∧ v = .str ⟨#[c]⟩
/-- the i-th is v, whatever way it is read -/
def Src.all (K : PySem.W.Frag) (H : Hp) (i : Nat) (v : V) : Src → Prop
  | .lst a => ∀ xs, SqL K H a xs → xs[i]? = some v
  | .tup a => ∀ xs, SqT K H a xs → xs[i]? = some v
  | .txt x => ∃ c, x.cps[i]? = some c ∧ v = .str ⟨#[c]⟩
theorem Src.all_of {S : Src} {X : Cx} {pins : List (Addr × Obj)} {σ : L2.St} {H : Hp} {s : Shared} {i : Nat} {v : V} (I : Inv X pins σ H s) (h : S.has X.K H i v) : S.all X.K H i v := by
  cases S with
  | lst a => obtain ⟨xs, h1, h2⟩ := h; exact fun ys hy => by rw [I.list_inj hy h1]; exact h2
  | tup a => obtain ⟨xs, h1, h2⟩ := h; exact fun ys hy => by rw [I.tuple_inj hy h1]; exact h2
  | txt x => exact h
def Src.len (K : PySem.W.Frag) (H : Hp) (n : Nat) : Src → Prop
  | .lst a => ∃ xs, SqL K H a xs ∧ xs.length = n
  | .tup a => ∃ xs, SqT K H a xs ∧ xs.length = n
  | .txt x => x.cps.size = n
def Src.itr (h : Heap) (it : Addr) (i : Nat) : Src → Prop
  | .lst a => h.IsListIter it a i
  | .tup a => h.IsTupleIter it a i
  | .txt x => ∃ t, h.IsStrIter it (strIterType x) x t i
def Src.val : Src → Value → Prop
  | .lst a, v => v = .ref a
  | .tup a, v => v = .ref a
  | .txt x, v => ∃ t, v = .str x t
theorem Src.itr_at {S : Src} {h h' : Heap} {it : Addr} {i : Nat} (x : S.itr h it i) (k : ∀ o, h.get? it = some o → h'.get? it = some o) : S.itr h' it i := by
  cases S with
  | lst a => exact Heap.IsListIter.at x k
  | tup a => exact Heap.IsTupleIter.at x k
  | txt z => obtain ⟨t, o, ho, r⟩ := x; exact ⟨t, o, k o ho, r⟩
theorem Src.itr_obj {S : Src} {h : Heap} {it : Addr} {i : Nat} (x : S.itr h it i) : ∃ o, h.get? it = some o ∧ ∀ v, o.data ≠ .cell v := by
  cases S with
  | lst a => obtain ⟨o, e, _, d⟩ := x; exact ⟨o, e, fun v q => by rw [d] at q; cases q⟩
  | tup a => obtain ⟨o, e, _, d⟩ := x; exact ⟨o, e, fun v q => by rw [d] at q; cases q⟩
  | txt z => obtain ⟨t, o, e, _, d⟩ := x; exact ⟨o, e, fun v q => by rw [d] at q; cases q⟩
/-- the addresses that its iterator at it leans on -/
def Src.fp (it : Addr) : Src → List Addr
  | .lst a => [it, a]
  | .tup a => [it, a]
  | .txt _ => [it]
section
variable {X : Cx} {pins : List (Addr × Obj)} {σ : L2.St} {H : Hp} {s : Shared} {it : Addr} {A : Around}
/-- the iterator as the library's Draws -/
theorem Src.draws (S : Src) (I : Inv X pins σ H s) (hh : A.handled = none) {i n : Nat} (hn : H it = none) (hi : S.itr s.heap it i) (hl : S.len X.K H n) :
    ∃ (P : Nat → Value → Prop) (St : Nat → Heap → Prop), Draws X.prog X.w A it (S.fp it) n P St ∧ St i s.heap ∧ (∀ j v u, S.has X.K H j v → P j u → RelV v u) ∧ (∀ j h, St j h → S.itr h it j) ∧ (∀ b ∈ S.fp it, b < s.heap.objs.size) := by
  cases S with
  | lst a =>
    obtain ⟨xs, hq, hl⟩ := hl
    obtain ⟨its, rv, p, hz⟩ := I.list hq
    have hne : a ≠ it := fun e => by
      subst e
      obtain ⟨o, e1, c1, _⟩ := hi
      obtain ⟨o2, e2, c2, _⟩ := p.isList
      rw [e1] at e2; cases e2; rw [c1] at c2; injection c2 with q; exact absurd q (by decide)
    have hsz : its.toArray.size = n := by rw [List.size_toArray, ← rv.length, hl]
    refine ⟨_, _, hsz ▸ Draws.list hh it a hne its.toArray, ⟨hi, p.isList⟩, fun j v u ⟨ys, hy, hv⟩ hu => ?_, fun j h st => st.1, fun b hb => ?_⟩
    · rw [I.list_inj hy hq] at hv
      obtain ⟨u', h1, h2⟩ := rv.get hv
      have hu' : its.toArray[j]? = some u := hu
      rw [List.getElem?_toArray, h1] at hu'
      cases hu'; exact h2
    · have e' : b = it ∨ b = a := by simpa [Src.fp] using hb
      rcases e' with z | z
      · obtain ⟨o, e1, _⟩ := hi; rw [z]; exact Heap.lt_size e1
      · rw [z]; exact p.lt
  | tup a =>
    obtain ⟨xs, hq, hl⟩ := hl
    obtain ⟨its, rv, p, hz⟩ := I.tuple hq
    have hne : a ≠ it := fun e => by
      subst e
      obtain ⟨o, e1, c1, _⟩ := hi
      obtain ⟨o2, e2, c2, _⟩ := id p
      rw [e1] at e2; cases e2; rw [c1] at c2; injection c2 with q; exact absurd q (by decide)
    have hsz : its.toArray.size = n := by rw [List.size_toArray, ← rv.length, hl]
    refine ⟨_, _, hsz ▸ Draws.tuple hh it a hne its.toArray, ⟨hi, p⟩, fun j v u ⟨ys, hy, hv⟩ hu => ?_, fun j h st => st.1, fun b hb => ?_⟩
    · rw [I.tuple_inj hy hq] at hv
      obtain ⟨u', h1, h2⟩ := rv.get hv
      have hu' : its.toArray[j]? = some u := hu
      rw [List.getElem?_toArray, h1] at hu'
      cases hu'; exact h2
    · have e' : b = it ∨ b = a := by simpa [Src.fp] using hb
      rcases e' with z | z
      · obtain ⟨o, e1, _⟩ := hi; rw [z]; exact Heap.lt_size e1
      · rw [z]; obtain ⟨o2, e2, _⟩ := id p; exact Heap.lt_size e2
  | txt x =>
    obtain ⟨t, hi⟩ := hi
    have hl : x.cps.size = n := hl
    refine ⟨_, _, hl ▸ Draws.text hh it x t, hi, fun j v u ⟨c, hc, hv⟩ hu => ?_, fun j h st => ⟨t, st⟩, fun b hb => ?_⟩
    · obtain ⟨c', u', h1, h2⟩ := hu
      rw [hc] at h1
      cases h1
      subst hv h2
      exact ⟨u', rfl⟩
    · have e' : b = it := by simpa [Src.fp] using hb
      obtain ⟨o, e1, _⟩ := hi
      rw [e']; exact Heap.lt_size e1
/-- iter(..) of it -/
theorem Src.begins (S : Src) {v : Value} {n : Nat} (I : Inv X pins σ H s) (hv : S.val v) (hl : S.len X.K H n) : ∃ (o : Obj) (φ : Heap → Prop), Begins v o φ ∧ φ s.heap ∧ ∀ (h : Heap) (it : Addr), h.get? it = some o → S.itr h it 0 := by
  cases S with
  | lst a =>
    obtain ⟨xs, hq, hl⟩ := hl
    obtain ⟨its, rv, p, hz⟩ := I.list hq
    cases hv
    exact ⟨_, _, begins_list a its.toArray, p.isList, fun h it e => ⟨_, e, rfl, rfl⟩⟩
  | tup a =>
    obtain ⟨xs, hq, hl⟩ := hl
    obtain ⟨its, rv, p, hz⟩ := I.tuple hq
    cases hv
    exact ⟨_, _, begins_tuple a its.toArray, p, fun h it e => ⟨_, e, rfl, rfl⟩⟩
  | txt x =>
    obtain ⟨t, rfl⟩ := hv
    exact ⟨_, _, begins_text x t, trivial, fun h it e => ⟨t, _, e, rfl, rfl⟩⟩
end
/-- enumerate: pairs -/
def Iter1 (K : PySem.W.Frag) (S : Src) : It :=
  ⟨fun i H => (∃ v, S.has K H i v) ∧ ∃ n, S.len K H n ∧ i < n, fun i H v H' => ∃ T x o, v = .ref T ∧ H T = none ∧ o.dict = none ∧ H' = upd H T (.frz o (.tup [.int (i : Nat), x])) ∧ S.all K H i x, fun i H => S.len K H i⟩
def Iter2 (K : PySem.W.Frag) (S1 S2 : Src) : It :=
  ⟨fun i H => (∃ v, S1.has K H i v) ∧ (∃ v, S2.has K H i v) ∧ ∃ n1 n2, S1.len K H n1 ∧ S2.len K H n2 ∧ i < n1 ∧ i < n2,
    fun i H v H' => ∃ T x y o, v = .ref T ∧ H T = none ∧ o.dict = none ∧ H' = upd H T (.frz o (.tup [x, y])) ∧ S1.all K H i x ∧ S2.all K H i y, fun i H => ∃ n1 n2, S1.len K H n1 ∧ S2.len K H n2 ∧ i = min n1 n2⟩
theorem turn_enumS {P : Program} {w : World} {K : PySem.W.Frag} {elts : List Expr} {kk : Nat} {tpos : Pos} (S : Src) (e it : Addr) :
    Turn P w K (.Tuple elts kk tpos) (Iter1 K S) [e, it] e (fun i h => (∃ old, IsEnum h e it ((i : Nat) : Int) old) ∧ S.itr h it i ∧ e ≠ it) where
  mem := by simp
  obj := fun i h st b hb => by
    obtain ⟨⟨old, he⟩, hi, _⟩ := st
    have e' : b = e ∨ b = it := by simpa using hb
    rcases e' with z | z
    · rw [z]; exact ⟨_, he, fun v q => nomatch q⟩
    · rw [z]; exact S.itr_obj hi
  keep := fun i h h' st k => let ⟨⟨old, he⟩, hi, hne⟩ := st; ⟨⟨old, k e (by simp) _ he⟩, S.itr_at hi fun o q => k it (by simp) o q, hne⟩
  item := by
    intro X hP hw hK hc i pins s σ H E I hf st hg
    subst hP hw hK
    obtain ⟨⟨old, he⟩, hit, hne⟩ := st
    obtain ⟨⟨x, hx⟩, n, hl, hlt⟩ := hg
    obtain ⟨PP, St, Dr, st0, hr, hitr, hfp⟩ := S.draws (A := X.A.in1) I (show X.A.in1.handled = none from I.ok.hd hc) (hf it (by simp)).1 hit hl
    have hel : e < s.heap.objs.size := Heap.lt_size he
    have hil : it < s.heap.objs.size := by obtain ⟨_, q, _⟩ := S.itr_obj hit; exact Heap.lt_size q
    have hef : e ∉ S.fp it := fun hm => by
      have hn := (hf e (by simp)).1
      cases S with
      | lst a =>
        have e' : e = it ∨ e = a := by simpa [Src.fp] using hm
        rcases e' with z | z
        · exact hne z
        · obtain ⟨xs, hq, _⟩ := hl
          obtain ⟨its, _, p, _⟩ := I.list hq
          obtain ⟨o2, e2, c2, _⟩ := p.isList
          rw [← z, he] at e2; cases e2; injection c2 with q; exact absurd q (by decide)
      | tup a =>
        have e' : e = it ∨ e = a := by simpa [Src.fp] using hm
        rcases e' with z | z
        · exact hne z
        · obtain ⟨xs, hq, _⟩ := hl
          obtain ⟨its, _, p, _⟩ := I.tuple hq
          obtain ⟨o2, e2, c2, _⟩ := id p
          rw [← z, he] at e2; cases e2; injection c2 with q; exact absurd q (by decide)
      | txt z => exact hne (by simpa [Src.fp] using hm)
    refine wpAny_pyNext_enum_itemC Dr he st0 hlt hne hef fun u h' tk hP ho hs' hT hsz hk => ?_
    refine ⟨_, rfl, wpAny_letOwnedTupleGo_enum (s := { s with heap := h', toks := tk + 1 }) ho fun h'' he' sb => ?_⟩
    have hT2 : h''.get? s.heap.objs.size = some { cls := .type "tuple", data := .seq #[.int i tk, u] } := (sb.2 _ (Nat.ne_of_gt hel)).trans hT
    have new : ObjOk X.prog X.w (upd H s.heap.objs.size (.frz { cls := .type "tuple", data := .seq #[.int i tk, u] } (.tup [.int (i : Nat), x]))) h'' s.heap.objs.size (.frz { cls := .type "tuple", data := .seq #[.int i tk, u] } (.tup [.int (i : Nat), x])) :=
      ⟨hT2, by show 2 ≤ sizeLine; decide, [.int i tk, u], .cons ⟨_, rfl⟩ (.cons (hr i x u hx hP) .nil), ⟨_, hT2, rfl, _, rfl⟩⟩
    have I1 := I.turnedNew (h' := h'') (t' := tk + 1) (ch := [e, it]) (fun b ob hb q => (sb.2 b (fun z => hb (by simp [z]))).trans (hk b ob (fun z => hb (by simp [z])) (fun z => hb (by simp [z])) q)) hf (Nat.le_refl _) new
    refine ⟨.ref s.heap.objs.size, _, I1, rfl, ⟨_, x, _, rfl, I.hok.fresh (Nat.le_refl _), rfl, rfl, Src.all_of I hx⟩, ⟨⟨u, ?_⟩, ?_, hne⟩, fun b hb => ?_⟩
    · have e1 : ((i + 1 : Nat) : Int) = (i : Int) + 1 := by omega
      rw [e1]; exact he'
    · exact S.itr_at (hitr _ _ hs') fun o q => (sb.2 it (Ne.symm hne)).trans q
    · have hb' : b < s.heap.objs.size := by
        have e' : b = e ∨ b = it := by simpa using hb
        rcases e' with z | z
        · rw [z]; exact hel
        · rw [z]; exact hil
      rw [upd_ne (Nat.ne_of_lt hb')]
      exact (hf b hb).1
  done := by
    intro X hP hw hK hc i pins s σ H E I hf st hg
    subst hP hw hK
    obtain ⟨⟨old, he⟩, hit, hne⟩ := st
    obtain ⟨PP, St, Dr, st0, hr, hitr, hfp⟩ := S.draws (A := X.A.in1) I (show X.A.in1.handled = none from I.ok.hd hc) (hf it (by simp)).1 hit hg
    obtain ⟨f0, f1, f2, f3, f4, f5⟩ := hf it (by simp)
    exact wpAny_pyNext_enum_endD Dr he st0 fun h' eb => ⟨rfl, I.turnedL (t' := s.toks) (ch := [e, it]) (fun b o hb q => eb b o (fun z => hb (by simp [z])) q) hf⟩
  self := fun A i s Q E st h => let ⟨⟨_, he⟩, _⟩ := st; wpAny_pyIter_enum he h
theorem Src.fp_not {S : Src} {X : Cx} {pins : List (Addr × Obj)} {σ : L2.St} {H : Hp} {s : Shared} {it c : Addr} {n : Nat} {o : Obj} (I : Inv X pins σ H s) (hl : S.len X.K H n) (hc : s.heap.get? c = some o) (h1 : o.cls ≠ .type "list") (h2 : o.cls ≠ .type "tuple") (hne : c ≠ it) : c ∉ S.fp it := fun hm => by
  cases S with
  | lst a =>
    have e' : c = it ∨ c = a := by simpa [Src.fp] using hm
    rcases e' with z | z
    · exact hne z
    · obtain ⟨xs, hq, _⟩ := hl
      obtain ⟨its, _, p, _⟩ := I.list hq
      obtain ⟨o2, e2, c2, _⟩ := p.isList
      rw [← z, hc] at e2; cases e2; exact h1 c2
  | tup a =>
    have e' : c = it ∨ c = a := by simpa [Src.fp] using hm
    rcases e' with z | z
    · exact hne z
    · obtain ⟨xs, hq, _⟩ := hl
      obtain ⟨its, _, p, _⟩ := I.tuple hq
      obtain ⟨o2, e2, c2, _⟩ := id p
      rw [← z, hc] at e2; cases e2; exact h2 c2
  | txt z => exact hne (by simpa [Src.fp] using hm)
/-- a cell that is younger than the things walked -/
def Src.under (N : Nat) : Src → Prop
  | .lst a => (a : Nat) < N
  | .tup a => (a : Nat) < N
  | .txt _ => True
theorem Src.under_of {S : Src} {X : Cx} {pins : List (Addr × Obj)} {σ : L2.St} {H : Hp} {s : Shared} {n : Nat} (I : Inv X pins σ H s) (hl : S.len X.K H n) : S.under s.heap.objs.size := by
  cases S with
  | lst a => obtain ⟨xs, hq, _⟩ := hl; obtain ⟨its, _, p, _⟩ := I.list hq; exact p.lt
  | tup a => obtain ⟨xs, hq, _⟩ := hl; obtain ⟨its, _, p, _⟩ := I.tuple hq; obtain ⟨o2, e2, _⟩ := id p; exact Heap.lt_size e2
  | txt z => trivial
theorem Src.fp_new {S : Src} {N : Nat} (h : S.under N) {j i : Nat} (hj : j ≠ i) : N + j ∉ S.fp (N + i) := fun hm => by
  cases S with
  | lst a =>
    have e' : N + j = N + i ∨ N + j = a := by simpa [Src.fp] using hm
    have q : (a : Nat) < N := h
    rcases e' with z | z
    · omega
    · rw [← z] at q
      have q' : (N + j : Nat) < N := q
      omega
  | tup a =>
    have e' : N + j = N + i ∨ N + j = a := by simpa [Src.fp] using hm
    have q : (a : Nat) < N := h
    rcases e' with z | z
    · omega
    · rw [← z] at q
      have q' : (N + j : Nat) < N := q
      omega
  | txt z =>
    have e' : N + j = N + i := by simpa [Src.fp] using hm
    omega
theorem Src.fp_mem {S : Src} {it : Addr} : it ∈ S.fp it := by
  cases S <;> simp [Src.fp]
theorem zip_sepS {S1 S2 : Src} {N : Nat} (h1 : S1.under N) (h2 : S2.under N) : ZipSep2 (N + 4) (N + 2) (N + 3) N (N + 1) (S1.fp N) (S2.fp (N + 1)) :=
  { TIz := show (N + 2 : Nat) ≠ N + 4 by omega, TOz := show (N + 3 : Nat) ≠ N + 4 by omega, TITO := show (N + 2 : Nat) ≠ N + 3 by omega,
    TIi1 := show (N + 2 : Nat) ≠ N by omega, mem1 := Src.fp_mem, zf1 := Src.fp_new (i := 0) h1 (by omega), Tf1 := Src.fp_new (i := 0) h1 (by omega),
    TIi2 := show (N + 2 : Nat) ≠ N + 1 by omega, mem2 := Src.fp_mem, zf2 := Src.fp_new (i := 1) h2 (by omega), Tf2 := Src.fp_new (i := 1) h2 (by omega),
    sep1_2 := Src.fp_new (j := 0) (i := 1) h2 (by omega), sep2_1 := Src.fp_new (j := 1) (i := 0) h1 (by omega) }
theorem turn_zipS {P : Program} {w : World} {K : PySem.W.Frag} {elts : List Expr} {kk : Nat} {tpos : Pos} {S1 S2 : Src} {z TI TO i1 i2 : Addr} (D : ZipSep2 z TI TO i1 i2 (S1.fp i1) (S2.fp i2)) :
    Turn P w K (.Tuple elts kk tpos) (Iter2 K S1 S2) [z, TI, TO, i1, i2] z (fun i h => IsZip h z TI TO .none ∧ IsTupOf2 h TI (.ref i1) (.ref i2) ∧ (∃ x y, IsTupOf2 h TO x y) ∧ S1.itr h i1 i ∧ S2.itr h i2 i) where
  mem := by simp
  obj := fun i h st c hc => by
    obtain ⟨hz, hTI, ⟨x, y, hTO⟩, h1, h2⟩ := st
    have e' : c = z ∨ c = TI ∨ c = TO ∨ c = i1 ∨ c = i2 := by simpa using hc
    rcases e' with q | q | q | q | q
    · rw [q]; exact ⟨_, hz, fun v q => nomatch q⟩
    · rw [q]; exact ⟨_, hTI, fun v q => nomatch q⟩
    · rw [q]; exact ⟨_, hTO, fun v q => nomatch q⟩
    · rw [q]; exact S1.itr_obj h1
    · rw [q]; exact S2.itr_obj h2
  keep := fun i h h' st k => by
    obtain ⟨hz, hTI, ⟨x, y, hTO⟩, h1, h2⟩ := st
    exact ⟨k z (by simp) _ hz, k TI (by simp) _ hTI, ⟨x, y, k TO (by simp) _ hTO⟩, S1.itr_at h1 fun o q => k i1 (by simp) o q, S2.itr_at h2 fun o q => k i2 (by simp) o q⟩
  item := by
    intro X hP hw hK hc i pins s σ H E I hf st hg
    subst hP hw hK
    obtain ⟨hz, hTI, ⟨x0, y0, hTO⟩, h1, h2⟩ := st
    obtain ⟨⟨x, hx⟩, ⟨y, hy⟩, n1, n2, hl1, hl2, lt1, lt2⟩ := hg
    obtain ⟨P1, St1, D1, st1, r1, t1, _⟩ := S1.draws (A := X.A.in1) I (show X.A.in1.handled = none from I.ok.hd hc) (hf i1 (by simp)).1 h1 hl1
    obtain ⟨P2, St2, D2, st2, r2, t2, _⟩ := S2.draws (A := X.A.in1) I (show X.A.in1.handled = none from I.ok.hd hc) (hf i2 (by simp)).1 h2 hl2
    have hzl : z < s.heap.objs.size := Heap.lt_size hz
    refine wpAny_pyNext_zipD2_item D D1 D2 hz hTI hTO st1 st2 lt1 lt2 fun u u2 h' tk q1 q2 z' TO' s1' s2' hT hsz hk => ?_
    refine ⟨_, rfl, wpAny_letOwnedTupleGo_zip (s := { s with heap := h', toks := tk }) z' fun h'' z'' sb => ?_⟩
    have hT2 : h''.get? s.heap.objs.size = some { cls := .type "tuple", data := .seq #[u, u2] } := (sb.2 _ (Nat.ne_of_gt hzl)).trans hT
    have new : ObjOk X.prog X.w (upd H s.heap.objs.size (.frz { cls := .type "tuple", data := .seq #[u, u2] } (.tup [x, y]))) h'' s.heap.objs.size (.frz { cls := .type "tuple", data := .seq #[u, u2] } (.tup [x, y])) :=
      ⟨hT2, by show 2 ≤ sizeLine; decide, [u, u2], .cons (r1 i x u hx q1) (.cons (r2 i y u2 hy q2) .nil), ⟨_, hT2, rfl, _, rfl⟩⟩
    have I1 := I.turnedNew (h' := h'') (t' := tk) (ch := [z, TI, TO, i1, i2]) (fun c o hb q => (sb.2 c (fun q' => hb (by simp [q']))).trans (hk c o (fun q' => hb (by simp [q'])) (fun q' => hb (by simp [q'])) (fun q' => hb (by simp [q'])) (fun q' => hb (by simp [q'])) q)) hf (Nat.le_refl _) new
    refine ⟨.ref s.heap.objs.size, _, I1, rfl, ⟨_, x, y, _, rfl, I.hok.fresh (Nat.le_refl _), rfl, rfl, Src.all_of I hx, Src.all_of I hy⟩, ⟨z'', ?_, ⟨u, u2, ?_⟩, ?_, ?_⟩, fun c hcm => ?_⟩
    · exact (sb.2 _ D.TIz).trans (hk _ _ D.TIz D.TITO D.TIi1 D.TIi2 hTI)
    · exact (sb.2 _ D.TOz).trans TO'
    · exact S1.itr_at (t1 _ _ s1') fun o q => (sb.2 _ D.zi1.symm).trans q
    · exact S2.itr_at (t2 _ _ s2') fun o q => (sb.2 _ D.zi2.symm).trans q
    · have hlt : c < s.heap.objs.size := by
        have e' : c = z ∨ c = TI ∨ c = TO ∨ c = i1 ∨ c = i2 := by simpa using hcm
        rcases e' with q | q | q | q | q
        · rw [q]; exact hzl
        · rw [q]; exact Heap.lt_size hTI
        · rw [q]; exact Heap.lt_size hTO
        · rw [q]; obtain ⟨_, e1, _⟩ := S1.itr_obj h1; exact Heap.lt_size e1
        · rw [q]; obtain ⟨_, e2, _⟩ := S2.itr_obj h2; exact Heap.lt_size e2
      rw [upd_ne (Nat.ne_of_lt hlt)]
      exact (hf c hcm).1
  done := by
    intro X hP hw hK hc i pins s σ H E I hf st hg
    subst hP hw hK
    obtain ⟨hz, hTI, ⟨x0, y0, hTO⟩, h1, h2⟩ := st
    obtain ⟨n1, n2, hl1, hl2, hi⟩ := hg
    obtain ⟨P1, St1, D1, st1, r1, t1, _⟩ := S1.draws (A := X.A.in1) I (show X.A.in1.handled = none from I.ok.hd hc) (hf i1 (by simp)).1 h1 hl1
    obtain ⟨P2, St2, D2, st2, r2, t2, _⟩ := S2.draws (A := X.A.in1) I (show X.A.in1.handled = none from I.ok.hd hc) (hf i2 (by simp)).1 h2 hl2
    exact wpAny_pyNext_zipD2_end D D1 D2 hz hTI hTO st1 st2 (by omega) (by omega) (by omega) fun h' tk hk => ⟨rfl, I.turnedL (t' := tk) (ch := [z, TI, TO, i1, i2]) (fun c o hb q =>
      hk c o (fun q' => hb (by simp [q'])) (fun q' => hb (by simp [q'])) (fun q' => hb (by simp [q'])) (fun q' => hb (by simp [q'])) q) hf⟩
  self := fun A i s Q E st h => wpAny_pyIter_zip st.1 h

set_option maxHeartbeats 1000000 in
theorem meets_enum1 {v : Value} {o : Obj} {φ : Heap → Prop} (B : Begins v o φ) :
    Meets (Builtin.«enumerate.__new__» ⟨[.type "enumerate", v], []⟩) (fun _ R s => φ s.heap ∧
      R (.ok (.ret (.ref (s.heap.push o).objs.size))) { s with heap := (s.heap.push o).push { cls := .type "enumerate", data := .fields #[.none, .bool false, .ref s.heap.objs.size, rawInt 0, .none, .none] } }) :=
  .of_wp fun prog w A R s h => by
    obtain ⟨hp, g, d, tk, os⟩ := s; obtain ⟨h1, h⟩ := h
    have hsub := sub_enumerate
    have q1 : ∀ {A' : Around} {E : Value → Shared → Prop} {Q : Value → Shared → Prop}, Q (.ref hp.objs.size) ⟨hp.push o, g, d, tk, os⟩ → wpAny (model prog w) A' (pyIter v) Q E ⟨hp, g, d, tk, os⟩ :=
      fun q => B.iter prog w _ _ ⟨hp, g, d, tk, os⟩ _ h1 q
    wp_walk using q1
    refine wpAny_stack_any fun st => wpAny_pure ?_
    split
    · rename_i c _ _ _ _ _
      cases (c == Value.type "enumerate")
      · wp_walk using q1
        exact ⟨_, rfl, h⟩
      · wp_walk using q1
        exact ⟨_, rfl, h⟩
    · wp_walk using q1
      exact ⟨_, rfl, h⟩
theorem enum_begins1 {prog : Program} {w : World} {A : Around} {E : Value → Shared → Prop} {s : Shared} {v : Value} {o : Obj} {φ : Heap → Prop} {Q : Value → Shared → Prop} (B : Begins v o φ) (h1 : φ s.heap)
    (h : ∀ h', IsEnum h' (s.heap.objs.size + 1) s.heap.objs.size 0 .none → h'.get? s.heap.objs.size = some o → h'.objs.size = s.heap.objs.size + 2 →
      (∀ b o, s.heap.get? b = some o → h'.get? b = some o) → Q (.ref (s.heap.objs.size + 1)) { s with heap := h' }) :
    wpAny (model prog w) A (call (.type "enumerate") [v]) Q E s := by
  refine callType_new F.called_enumerate (by decide) (F.typeCall_enumerate_1 _) (F.newCall_enumerate_1 _) (fun obj => F.args_object_init_2 obj _) F.entry_enumerate_new
    (meets_enum1 B) ⟨h1, ?_⟩
  have hz : (s.heap.push o).objs.size = s.heap.objs.size + 1 := Heap.size_push ..
  show _ ∧ _
  rw [hz]
  have he : IsEnum ((s.heap.push o).push { cls := .type "enumerate", data := .fields #[.none, .bool false, .ref s.heap.objs.size, rawInt 0, .none, .none] }) (s.heap.objs.size + 1) s.heap.objs.size 0 .none := by
    have := Heap.get?_push_size (s.heap.push o) (o := { cls := .type "enumerate", data := .fields #[.none, .bool false, .ref s.heap.objs.size, rawInt 0, .none, .none] }) rfl
    rw [hz] at this; exact this
  refine ⟨⟨_, he, rfl⟩, h _ he (Heap.get?_push_of_some _ (Heap.get?_push_size _ B.free)) (by rw [Heap.size_push, hz]) fun b o x => Heap.get?_push_of_some _ (Heap.get?_push_of_some _ x)⟩
end Sm


set_option Elab.async false
set_option linter.all false
set_option maxRecDepth 100000
set_option maxHeartbeats 1000000
/-! Sm7: argument lists, displays, subscripts, slices, iterables. -/
namespace Sm
open PySem PySem.Spec L2

/-! ### argument lists -/
def BorL (K : PySem.W.Frag) (mg : Str → Option Value) (W : Wd) : List D → List V → Prop
  | [], vs => vs = []
  | d :: ds, vs => ∃ v r, vs = v :: r ∧ Bor K mg W d v ∧ BorL K mg W ds r
theorem BorL.ext {K : PySem.W.Frag} {mg : Str → Option Value} {W W' : Wd} (e : Ext W W') : ∀ {ds : List D} {vs : List V}, BorL K mg W ds vs → BorL K mg W' ds vs
  | [], _, h => h
  | d :: ds, vs, ⟨v, r, ev, h1, h2⟩ => ⟨v, r, ev, h1.ext e, BorL.ext e h2⟩
theorem BorL.of {K : PySem.W.Frag} {mg : Str → Option Value} {W : Wd} : ∀ {ds : List D} {vs : List V}, RpL K mg W.as W.G ds vs → BorL K mg W ds vs
  | [], _, h => by
    simp only [RpL] at h
    exact h
  | d :: ds, vs, h => by
    simp only [RpL] at h
    obtain ⟨v, r, ev, h1, h2⟩ := h
    exact ⟨v, r, ev, .inl h1, BorL.of h2⟩
def TBo (C : Cn) (m : Lx) : TA := fun σ H Q => ∃ env W st, W.H = H ∧ SR C env W st σ ∧
  Out C σ W (m env st) fun ds st' => ∀ vs W', Ext W W' → C.ok W' st' → BorL C.X.K C.X.mg W' ds vs → Q vs W'.H
/-- arguments that are only looked at -/
def SB (C : Cn) (es : List Expr) (m : Lx) : Prop := PA C.X es (TBo C m)
@[simp] def lNil : Lx := fun _ => ret []
@[simp] def lCons (m : Ex) (r : Lx) : Lx := fun env => bnd (m env) fun d => bnd (r env) fun ds => ret (d :: ds)
/-- the length of what an argument list gives -/
def Ln (m : Lx) (n : Nat) : Prop := ∀ env st ds st', m env st = .ok ds st' → ds.length = n
theorem ln_nil : Ln lNil 0 := fun _ _ _ _ h => by cases h; rfl
theorem ln_cons {m : Ex} {r : Lx} {n : Nat} (h : Ln r n) : Ln (lCons m r) (n + 1) := fun env st ds st' e => by
  obtain ⟨d, s1, _, e⟩ := bnd_ok e
  obtain ⟨ds', s2, e2, e⟩ := bnd_ok e
  cases e
  rw [List.length_cons, h _ _ _ _ e2]
section
variable {C : Cn} {κ : Kd} {e : Expr} {es : List Expr} {me : Ex} {ml : Lx} {pos : Pos}
theorem PA.imp {X : Cx} {e : List Expr} {t u : TA} (h : PA X e t) (q : ∀ σ H Q, u σ H Q → t σ H Q) : PA X e u := ⟨fun pos pins s σ H Q I z => h.run pos pins s σ H Q I (q σ H Q z)⟩
theorem SA.sb (h : SA C es ml) : SB C es ml := PA.imp h fun σ H Q ⟨env, W, st, e, R, o⟩ => ⟨env, W, st, e, R, o.imp fun ds st' q vs W' e' k' r => q vs W' e' k' (.of r)⟩
theorem sa_nil : SA C [] lNil := PA.imp pa_nil fun σ H Q ⟨env, W, st, e, R, o⟩ => by
  subst e
  exact (show (∀ vs W', Ext W W' → C.ok W' st → RpL C.X.K C.X.mg W'.as W'.G [] vs → Q vs W'.H) from o) [] W (.refl W) R.ok (by simp [RpL])
theorem sb_nil : SB C [] lNil := SA.sb sa_nil
theorem sa_cons (h : SE C .froz e me) (hr : SA C es ml) (hs : starEach (e :: es) C.X.env = (false, eval e C.X.env) :: starEach es C.X.env := by rfl) : SA C (e :: es) (lCons me ml) :=
  PA.imp (pa_cons h hr hs) fun σ H Q ⟨env, W, st, e, R, o⟩ => by
    refine ⟨env, W, st, e, R, (Out.bnd o).imp fun d st1 o1 v W1 e1 k1 r1 => ⟨env, W1, st1, rfl, R.up e1 k1, ((Out.bnd o1).up e1).imp fun ds st2 q vs W2 e2 k2 r2 => ?_⟩⟩
    refine (show (∀ vs W', Ext W W' → C.ok W' st2 → RpL C.X.K C.X.mg W'.as W'.G (d :: ds) vs → Q vs W'.H) from q) _ W2 (e1.trans e2) k2 ?_
    simp only [RpL]
    exact ⟨v, vs, rfl, Rp.ext e2 r1, r2⟩
theorem sb_cons (h : SE C κ e me) (hr : SB C es ml) (hs : starEach (e :: es) C.X.env = (false, eval e C.X.env) :: starEach es C.X.env := by rfl) : SB C (e :: es) (lCons me ml) :=
  PA.imp (pa_cons h hr hs) fun σ H Q ⟨env, W, st, e, R, o⟩ => by
    refine ⟨env, W, st, e, R, (Out.bnd o).imp fun d st1 o1 v W1 e1 k1 r1 => ⟨env, W1, st1, rfl, R.up e1 k1, ((Out.bnd o1).up e1).imp fun ds st2 q vs W2 e2 k2 r2 => ?_⟩⟩
    exact (show (∀ vs W', Ext W W' → C.ok W' st2 → BorL C.X.K C.X.mg W' (d :: ds) vs → Q vs W'.H) from q) _ W2 (e1.trans e2) k2 ⟨v, vs, rfl, (r1.bor).ext e2, r2⟩
/-! ### displays -/
@[simp] def eTup (m : Lx) : Ex := fun env => bnd (m env) fun ds => ret (.tup ds)
@[simp] def eLst (m : Lx) : Ex := fun env => bnd (m env) fun ds => ret (.lst ds)
theorem out_ln {α : Type} {σ : L2.St} {W : Wd} {env : En} {st : Store} {n : Nat} {f : List D → M α} {k : α → Store → Prop} (hl : Ln ml n) (o : Out C σ W (bnd (ml env) f st) k) : Out C σ W (ml env st) fun ds st' => ds.length = n ∧ Out C σ W (f ds st') k := by
  have o' := Out.bnd o
  cases q : ml env st with
  | ok ds st' => rw [q] at o'; exact ⟨hl _ _ _ _ q, o'⟩
  | exc c fs s => rw [q] at o'; exact o'
  | stuck => rw [q] at o'; exact o'
theorem se_tup {n : Nat} {x1} (h : SA C es ml) (hl : Ln ml n) (hn : n ≤ line := by decide) : SE C .froz (.Tuple es x1 pos) (eTup ml) :=
  PE.imp (pe_tupF h) fun σ H Q ⟨env, W, st, e, R, o⟩ => by
    subst e
    refine ⟨env, W, st, rfl, R, (out_ln hl o).imp fun ds st1 ⟨hz, o1⟩ vs W1 e1 k1 r1 => ⟨by rw [← r1.len, hz, ← line_eq]; exact hn, fun p ob np no => ?_⟩⟩
    exact (show (∀ v W', Ext W W' → C.ok W' st1 → C.rk .froz W W' (.tup ds) v → Q v W'.H) from o1) _ (W1.newT p ob vs) (e1.trans (newT_ext k1 np)) (newT_ok k1 np) (newT_rp k1 np no r1)
theorem se_lst {n : Nat} (h : SA C es ml) (hl : Ln ml n) (hn : n ≤ line := by decide) : SE C .fresh (.List es pos) (eLst ml) :=
  PE.imp (pe_lst h) fun σ H Q ⟨env, W, st, e, R, o⟩ => by
    subst e
    refine ⟨env, W, st, rfl, R, (out_ln hl o).imp fun ds st1 ⟨hz, o1⟩ vs W1 e1 k1 r1 => ⟨by rw [← r1.len, hz, ← line_eq]; exact hn, fun p np => ?_⟩⟩
    exact (show (∀ v W', Ext W W' → C.ok W' st1 → C.rk .fresh W W' (.lst ds) v → Q v W'.H) from o1) _ (W1.new p (.lst vs)) (e1.trans (new_ext np)) (new_ok k1 np) (RK.down (κ := .fresh) e1 (new_lst k1 np r1))
end

/-! ### subscripts -/
def chD (c : Nat) : D := .str ⟨#[c]⟩
def ixD : D → D → M D
  | .lst xs, .int i => lift (atI xs i)
  | .tup xs, .int i => lift (atI xs i)
  | .scr xs, .int i => lift (atI xs i)
  | .str z, .int i => lift (if z.length ≤ line then (atI z.cps.toList i).map chD else none)
  | .obj n, .int i => fun st => match st[n]? with
    | some xs => lift (atI xs i) st
    | none => .stuck
  | _, _ => halt
theorem RpL.atI {K : PySem.W.Frag} {mg : Str → Option Value} {as : List Addr} {G : Hp} {ds : List D} {vs : List V} {i : Int} {d : D} (r : RpL K mg as G ds vs) (h : atI ds i = some d) : ∃ v, L2.atI vs i = some v ∧ Rp K mg as G d v := by
  unfold L2.atI at h ⊢
  rw [← r.len]
  cases q : ixN ds.length i with
  | none => rw [q] at h; cases h
  | some j =>
    rw [q] at h
    exact RpL.get' (i := j) r h
section
variable {C : Cn} {κa κb : Kd} {a b : Expr} {ma mb : Ex} {pos : Pos}
theorem ix_go {σ : L2.St} {W : Wd} {st : Store} {d1 d2 : D} {x y : V} {Q : VK} (k : C.ok W st) (b1 : Bor C.X.K C.X.mg W d1 x) (b2 : Bor C.X.K C.X.mg W d2 y)
    (o : Out C σ W (ixD d1 d2 st) fun d st' => ∀ z W', Ext W W' → C.ok W' st' → C.rk .froz W W' d z → Q z W'.H) : rIx C.X.K x y W.H Q := by
  cases d2 with
  | int i =>
    have e2 := b2.int
    subst e2
    cases d1 with
    | lst xs =>
      obtain ⟨p, vs, e1, hp, l⟩ := b1.lst k
      have o' : Out C σ W (lift (atI xs i) st) _ := o
      cases q : atI xs i with
      | none => rw [q] at o'; exact False.elim o'
      | some d =>
        rw [q] at o'
        obtain ⟨v, h1, h2⟩ := l.atI q
        exact .inl ⟨p, vs, i, v, e1, rfl, .inl (.inl hp), h1, o' v W (.refl W) k h2⟩
    | tup xs =>
      obtain ⟨p, vs, e1, hp, l⟩ := b1.tup k
      have o' : Out C σ W (lift (atI xs i) st) _ := o
      cases q : atI xs i with
      | none => rw [q] at o'; exact False.elim o'
      | some d =>
        rw [q] at o'
        obtain ⟨v, h1, h2⟩ := l.atI q
        exact .inr (.inl ⟨p, vs, i, v, e1, rfl, hp, h1, o' v W (.refl W) k h2⟩)
    | scr xs =>
      obtain ⟨p, vs, e1, hp, l⟩ := b1.scr k
      have o' : Out C σ W (lift (atI xs i) st) _ := o
      cases q : atI xs i with
      | none => rw [q] at o'; exact False.elim o'
      | some d =>
        rw [q] at o'
        obtain ⟨v, h1, h2⟩ := l.atI q
        exact .inl ⟨p, vs, i, v, e1, rfl, hp, h1, o' v W (.refl W) k h2⟩
    | str z =>
      have e1 := b1.str
      subst e1
      have o' : Out C σ W (lift (if z.length ≤ line then (atI z.cps.toList i).map chD else none) st) _ := o
      by_cases hz : z.length ≤ line
      · rw [if_pos hz] at o'
        cases q : atI z.cps.toList i with
        | none => rw [q] at o'; exact False.elim o'
        | some c =>
          rw [q] at o'
          exact .inr (.inr ⟨z, i, c, rfl, rfl, by rw [← line_eq]; exact hz, q, o' _ W (.refl W) k (by simp [chD, Cn.rk, RK, Rp])⟩)
      · rw [if_neg hz] at o'; exact False.elim o'
    | obj n =>
      obtain ⟨p, e1, hp⟩ := b1.obj
      have o' : Out C σ W (match st[n]? with | some xs => lift (atI xs i) st | none => .stuck) _ := o
      cases hn : st[n]? with
      | none => rw [hn] at o'; exact False.elim o'
      | some xs =>
        rw [hn] at o'
        obtain ⟨p', vs, h1, h2, h3⟩ := k.cel n xs hn
        rw [hp] at h1
        cases h1
        have o2 : Out C σ W (lift (atI xs i) st) _ := o'
        cases q : atI xs i with
        | none => rw [q] at o2; exact False.elim o2
        | some d =>
          rw [q] at o2
          obtain ⟨v, h4, h5⟩ := h3.atI q
          exact .inl ⟨p, vs, i, v, e1, rfl, .inl (.inl h2), h4, o2 v W (.refl W) k h5⟩
    | _ => exact False.elim (show False from o)
  | _ => cases d1 <;> exact False.elim (show False from o)
theorem se_ix (ha : SE C κa a ma) (hb : SE C κb b mb) (hs : PlainIx b) : SE C .froz (.Subscript a b pos) (eBin ixD ma mb) :=
  PE.imp (pe_ix ix_seq ha hb hs) fun σ H Q ⟨env, W, st, e, R, o⟩ => by
    subst e
    refine ⟨env, W, st, rfl, R, (Out.bnd o).imp fun d1 st1 o1 v W1 e1 k1 r1 => ⟨env, W1, st1, rfl, R.up e1 k1, ((Out.bnd o1).up e1).imp fun d2 st2 o2 u W2 e2 k2 r2 => ?_⟩⟩
    exact ix_go k2 (r1.bor.ext e2) r2.bor ((o2.up (e1.trans e2)).imp fun d st' q z W' e' k' r' => q z W' ((e1.trans e2).trans e') k' r')
end

/-! ### slices -/
abbrev Px := En → M (Option Int)
def pNo : Px := fun _ => ret none
def pAt (m : Ex) : Px := fun env => bnd (m env) fun d => match d with
  | .int i => ret (some i)
  | _ => halt
def TOo (C : Cn) (m : Px) : TO := fun σ H Q => ∃ env W st, W.H = H ∧ SR C env W st σ ∧ Out C σ W (m env st) fun o st' => ∀ W', Ext W W' → C.ok W' st' → Q o W'.H
def SO (C : Cn) (e : Option Expr) (m : Px) : Prop := PO C.X e (TOo C m)
/-- the items of xs[lo:hi] -/
def cut {α : Type} (xs : List α) (lo hi : Option Int) : List α := (xs.drop (HT.sIx xs.length 0 lo)).take (HT.sIx xs.length xs.length hi - HT.sIx xs.length 0 lo)
theorem RpL.cut {K : PySem.W.Frag} {mg : Str → Option Value} {as : List Addr} {G : Hp} {ds : List D} {vs : List V} {lo hi : Option Int} (r : RpL K mg as G ds vs) : RpL K mg as G (Sm.cut ds lo hi) (cutV vs lo hi) := by
  unfold Sm.cut cutV
  rw [← r.len]
  exact (r.drop _).take _
theorem cut_all {α : Type} {xs : List α} {lo hi : Option Int} (h : HT.sIx xs.length 0 lo = 0 ∧ HT.sIx xs.length xs.length hi = xs.length) : cut xs lo hi = xs := by
  unfold cut
  rw [h.1, h.2]
  simp
def slD (d : D) (lo hi : Option Int) : Option D := match d with
  | .tup xs => some (.tup (cut xs lo hi))
  | .str z => if z.length ≤ line then some (.str (cutS z lo hi)) else none
  | _ => none
def slL (d : D) (lo hi : Option Int) : Option D := match d with
  | .lst xs => some (.lst (cut xs lo hi))
  | .scr xs => some (.lst (cut xs lo hi))
  | _ => none
def eSl (g : D → Option Int → Option Int → Option D) (a : Ex) (lo hi : Px) : Ex := fun env => bnd (a env) fun d => bnd (lo env) fun l => bnd (hi env) fun h => lift (g d l h)
section
variable {C : Cn} {κ : Kd} {a e : Expr} {ma me : Ex} {lo hi : Option Expr} {ml mh : Px} {pos p2 : Pos}
theorem PO.imp {X : Cx} {e : Option Expr} {t u : TO} (h : PO X e t) (q : ∀ σ H Q, u σ H Q → t σ H Q) : PO X e u := ⟨fun pins s σ H Q I z => h.run pins s σ H Q I (q σ H Q z)⟩
theorem so_no : SO C none pNo := PO.imp po_none fun σ H Q ⟨env, W, st, e, R, o⟩ => by
  subst e
  exact (show (∀ W', Ext W W' → C.ok W' st → Q none W'.H) from o) W (.refl W) R.ok
theorem so_at (h : SE C κ e me) : SO C (some e) (pAt me) := PO.imp (po_some h) fun σ H Q ⟨env, W, st, e, R, o⟩ => by
  refine ⟨env, W, st, e, R, (Out.bnd o).imp fun d st1 o1 v W1 e1 k1 r1 => ?_⟩
  cases d with
  | int i =>
    have := r1.bor.int
    exact ⟨i, this, (show (∀ W', Ext W W' → C.ok W' st1 → Q (some i) W'.H) from o1) W1 e1 k1⟩
  | _ => exact False.elim (show False from o1)
theorem se_sl (ha : SE C κ a ma) (hl : SO C lo ml) (hh : SO C hi mh) : SE C .froz (.Subscript a (.Slice lo hi none p2) pos) (eSl slD ma ml mh) :=
  PE.imp (pe_slice (sl_tupF.or sl_str) ha hl hh) fun σ H Q ⟨env, W, st, e, R, o⟩ => by
    subst e
    refine ⟨env, W, st, rfl, R, (Out.bnd o).imp fun d st1 o1 v W1 e1 k1 r1 => ⟨env, W1, st1, rfl, R.up e1 k1, ((Out.bnd o1).up e1).imp fun l st2 o2 W2 e2 k2 => ⟨env, W2, st2, rfl, R.up (e1.trans e2) k2, ((Out.bnd o2).up (e1.trans e2)).imp fun u st3 o3 W3 e3 k3 => ?_⟩⟩⟩
    have e03 := (e1.trans e2).trans e3
    have b3 := r1.bor.ext (e2.trans e3)
    cases d with
    | tup xs =>
      have q : ∀ z W', Ext W W' → C.ok W' st3 → C.rk .froz W W' (.tup (cut xs l u)) z → Q z W'.H := o3
      have f3 : C.rp W3 (.tup xs) v := by
        rcases b3 with h | ⟨_, _, _, h⟩
        · exact h
        · exact h.elim
      obtain ⟨p, vs, ev, hp, r⟩ := b3.tup k3
      refine .inl ⟨p, vs, ev, hp, fun h => ?_, fun p' ob np no => q _ (W3.newT p' ob (cutV vs l u)) (e03.trans (newT_ext k3 np)) (newT_ok k3 np) (newT_rp k3 np no r.cut)⟩
      have := q v W3 e03 k3 (by rw [cut_all (by rw [r.len]; exact h)]; exact f3)
      rw [ev] at this
      exact this
    | str z =>
      have e1 := b3.str
      subst e1
      have o' : Out C σ W (lift (if z.length ≤ line then some (D.str (cutS z l u)) else none) st3) _ := o3
      by_cases hz : z.length ≤ line
      · rw [if_pos hz] at o'
        exact .inr ⟨z, rfl, by rw [← line_eq]; exact hz, o' _ W3 e03 k3 (by simp [Cn.rk, RK, Rp])⟩
      · rw [if_neg hz] at o'; exact False.elim o'
    | _ => exact False.elim (show False from o3)
theorem se_slL (ha : SE C κ a ma) (hl : SO C lo ml) (hh : SO C hi mh) : SE C .fresh (.Subscript a (.Slice lo hi none p2) pos) (eSl slL ma ml mh) :=
  PE.imp (pe_slice sl_list ha hl hh) fun σ H Q ⟨env, W, st, e, R, o⟩ => by
    subst e
    refine ⟨env, W, st, rfl, R, (Out.bnd o).imp fun d st1 o1 v W1 e1 k1 r1 => ⟨env, W1, st1, rfl, R.up e1 k1, ((Out.bnd o1).up e1).imp fun l st2 o2 W2 e2 k2 => ⟨env, W2, st2, rfl, R.up (e1.trans e2) k2, ((Out.bnd o2).up (e1.trans e2)).imp fun u st3 o3 W3 e3 k3 => ?_⟩⟩⟩
    have e03 := (e1.trans e2).trans e3
    have b3 := r1.bor.ext (e2.trans e3)
    have fin : ∀ {xs : List D} {vs : List V} {p : Addr}, v = .ref p → SqL C.X.K W3.H p vs → RpL C.X.K C.X.mg W3.as W3.G xs vs → (∀ z W', Ext W W' → C.ok W' st3 → C.rk .fresh W W' (.lst (cut xs l u)) z → Q z W'.H) → rSlL C.X.K v l u W3.H Q :=
      fun ev hp r q => ⟨_, _, ev, hp, fun p' np => q _ (W3.new p' (.lst (cutV _ l u))) (e03.trans (new_ext np)) (new_ok k3 np) (RK.down (κ := .fresh) e03 (new_lst k3 np r.cut))⟩
    cases d with
    | lst xs =>
      obtain ⟨p, vs, ev, hp, r⟩ := b3.lst k3
      exact fin ev (.inl (.inl hp)) r o3
    | scr xs =>
      obtain ⟨p, vs, ev, hp, r⟩ := b3.scr k3
      exact fin ev hp r o3
    | _ => exact False.elim (show False from o3)
end

/-! ### iterables -/
def chs (z : Str) : List D := z.cps.toList.map chD
/-- the items of a thing -/
def seqD : D → Option (List D)
  | .lst xs => some xs
  | .tup xs => some xs
  | .scr xs => some xs
  | .str z => some (chs z)
  | _ => none
/-- what S holds -/
def SrcD (C : Cn) (W : Wd) (ds : List D) : Src → Prop
  | .lst a => ∃ xs, SqL C.X.K W.G a xs ∧ RpL C.X.K C.X.mg W.as W.G ds xs
  | .tup a => ∃ xs, SqT C.X.K W.G a xs ∧ RpL C.X.K C.X.mg W.as W.G ds xs
  | .txt z => ds = chs z
def Src.ofV (v : V) : Src → Prop
  | .lst a => v = .ref a
  | .tup a => v = .ref a
  | .txt z => v = .str z
section
variable {C : Cn} {W W' : Wd} {st : Store} {ds : List D} {S : Src} {d : D} {v : V} {i : Nat}
theorem Src.ofV_val {u : Value} (h : S.ofV v) (r : RelV v u) : S.val u := by
  cases S with
  | lst a => cases h; exact r
  | tup a => cases h; exact r
  | txt z => cases h; exact r
theorem src_of (h : C.rp W d v) (hs : seqD d = some ds) : ∃ S : Src, SrcD C W ds S ∧ S.ofV v := by
  cases d with
  | lst xs =>
    cases hs
    have h' : Rp _ _ _ _ (.lst ds) v := h
    simp only [Rp] at h'
    obtain ⟨a, vs, ev, sq, l⟩ := h'
    exact ⟨.lst a, ⟨vs, .inl (.inl sq), l⟩, ev⟩
  | scr xs =>
    cases hs
    have h' : Rp _ _ _ _ (.scr ds) v := h
    simp only [Rp] at h'
    obtain ⟨a, vs, ev, sq, l⟩ := h'
    exact ⟨.lst a, ⟨vs, sq, l⟩, ev⟩
  | tup xs =>
    cases hs
    have h' : Rp _ _ _ _ (.tup ds) v := h
    simp only [Rp] at h'
    obtain ⟨a, vs, ev, sq, _, l⟩ := h'
    exact ⟨.tup a, ⟨vs, sq, l⟩, ev⟩
  | str z =>
    cases hs
    have h' : Rp _ _ _ _ (.str z) v := h
    simp only [Rp] at h'
    exact ⟨.txt z, rfl, h'⟩
  | _ => cases hs
theorem SrcD.lat (h : SrcD C W ds S) (l : Lat W W') : SrcD C W' ds S := by
  cases S with
  | lst a => obtain ⟨xs, h1, h2⟩ := h; exact ⟨xs, SqL.up l.g h1, RpL.up l.pre l.g _ _ h2⟩
  | tup a => obtain ⟨xs, h1, h2⟩ := h; exact ⟨xs, SqT.up l.g h1, RpL.up l.pre l.g _ _ h2⟩
  | txt z => exact h
theorem SrcD.len (h : SrcD C W ds S) (k : C.ok W st) : S.len C.X.K W.H ds.length := by
  cases S with
  | lst a => obtain ⟨xs, h1, h2⟩ := h; exact ⟨xs, SqL.up k.sub h1, h2.len.symm⟩
  | tup a => obtain ⟨xs, h1, h2⟩ := h; exact ⟨xs, SqT.up k.sub h1, h2.len.symm⟩
  | txt z =>
    have h' : ds = chs z := h
    subst h'
    show z.cps.size = (chs z).length
    simp [chs]
theorem SrcD.has (h : SrcD C W ds S) (k : C.ok W st) (hi : i < ds.length) : ∃ v, S.has C.X.K W.H i v := by
  cases S with
  | lst a => obtain ⟨xs, h1, h2⟩ := h; exact ⟨_, xs, SqL.up k.sub h1, List.getElem?_eq_getElem (by rw [← h2.len]; exact hi)⟩
  | tup a => obtain ⟨xs, h1, h2⟩ := h; exact ⟨_, xs, SqT.up k.sub h1, List.getElem?_eq_getElem (by rw [← h2.len]; exact hi)⟩
  | txt z =>
    have h' : ds = chs z := h
    subst h'
    have hl : i < z.cps.size := by simpa [chs] using hi
    exact ⟨_, z.cps[i], by simp [hl], rfl⟩
theorem SrcD.all (h : SrcD C W ds S) (k : C.ok W st) (q : S.all C.X.K W.H i v) (hi : i < ds.length) : ∃ d, ds[i]? = some d ∧ C.rp W d v := by
  cases S with
  | lst a => obtain ⟨xs, h1, h2⟩ := h; exact RpL.get h2 (q xs (SqL.up k.sub h1))
  | tup a => obtain ⟨xs, h1, h2⟩ := h; exact RpL.get h2 (q xs (SqT.up k.sub h1))
  | txt z =>
    have h' : ds = chs z := h
    subst h'
    obtain ⟨c, hc, rfl⟩ := q
    exact ⟨chD c, by simp [chs, hc], by simp [chD, Cn.rp, Rp]⟩
/-- a plain walk -/
def Src.it (K : PySem.W.Frag) : Src → It
  | .lst a => Itl K a
  | .tup a => Itt K a
  | .txt z => Its z
theorem SrcD.walk (h : SrcD C W ds S) : WalkD C W (S.it C.X.K) ds := by
  cases S with
  | lst a =>
    obtain ⟨xs, h1, h2⟩ := h
    refine ⟨_, _, h2.len ▸ walk_list (xs := xs), fun W' st l k => SqL.up k.sub (SqL.up l.g h1), fun i W' st x H' hi l k y => ?_⟩
    obtain ⟨e, y⟩ := y
    subst e
    obtain ⟨d, h3, h4⟩ := RpL.get (RpL.up l.pre l.g _ _ h2) y
    exact ⟨W', d, rfl, .refl W', k, h3, h4⟩
  | tup a =>
    obtain ⟨xs, h1, h2⟩ := h
    refine ⟨_, _, h2.len ▸ walk_tup (xs := xs), fun W' st l k => SqT.up k.sub (SqT.up l.g h1), fun i W' st x H' hi l k y => ?_⟩
    obtain ⟨e, y⟩ := y
    subst e
    obtain ⟨d, h3, h4⟩ := RpL.get (RpL.up l.pre l.g _ _ h2) y
    exact ⟨W', d, rfl, .refl W', k, h3, h4⟩
  | txt z =>
    have h' : ds = chs z := h
    subst h'
    have hl : (chs z).length = z.cps.size := by simp [chs]
    refine ⟨_, _, hl ▸ walk_str (z := z), fun W' st l k => trivial, fun i W' st x H' hi l k y => ?_⟩
    obtain ⟨e, c, hc, rfl⟩ := y
    subst e
    exact ⟨W', chD c, rfl, .refl W', k, by simp [chs, hc], by simp [chD, Cn.rp, Rp]⟩
def enumD : Nat → List D → List D
  | _, [] => []
  | i, d :: ds => .tup [.int i, d] :: enumD (i + 1) ds
theorem enumD_get : ∀ (ds : List D) (i j : Nat), (enumD j ds)[i]? = (ds[i]?).map fun d => .tup [.int ((j + i : Nat) : Int), d]
  | [], i, j => by simp [enumD]
  | d :: ds, 0, j => by simp [enumD]
  | d :: ds, i + 1, j => by
    have := enumD_get ds i (j + 1)
    simp only [enumD, List.getElem?_cons_succ, this]
    congr 1
    funext d
    rw [show j + 1 + i = j + (i + 1) by omega]
theorem enumD_len : ∀ (ds : List D) (j : Nat), (enumD j ds).length = ds.length
  | [], _ => rfl
  | d :: ds, j => by simp [enumD, enumD_len ds (j + 1)]
theorem SrcD.enum (h : SrcD C W ds S) : WalkD C W (Iter1 C.X.K S) (enumD 0 ds) := by
  refine ⟨fun H => S.len C.X.K H ds.length ∧ ∀ i, i < ds.length → ∃ v, S.has C.X.K H i v, fun i H v H' => ∃ T x o, v = .ref T ∧ H T = none ∧ o.dict = none ∧ H' = upd H T (.frz o (.tup [.int (i : Nat), x])) ∧ S.all C.X.K H i x, ?_, fun W' st l k => ⟨(h.lat l).len k, fun i hi => (h.lat l).has k hi⟩, fun i W' st x H' hi l k y => ?_⟩
  · rw [enumD_len]
    exact ⟨fun i H hi q => ⟨q.2 i hi, ds.length, q.1, hi⟩, fun H q => q.1, fun i H x H' hi q y => y⟩
  · rw [enumD_len] at hi
    obtain ⟨T, x', o, e1, hT, ho, e2, ha⟩ := y
    subst e1 e2
    obtain ⟨d, h1, h2⟩ := (h.lat l).all k ha hi
    refine ⟨W'.newT T o [.int (i : Nat), x'], .tup [.int i, d], rfl, newT_ext k hT, newT_ok k hT, ?_, newT_rp k hT ho ?_⟩
    · rw [enumD_get, h1]
      simp
    · simp only [RpL, Rp]
      exact ⟨_, _, rfl, rfl, _, _, rfl, h2, rfl⟩
def zipD (xs ys : List D) : List D := List.zipWith (fun a b => .tup [a, b]) xs ys
theorem SrcD.zip {es : List D} {S2 : Src} (h : SrcD C W ds S) (h2 : SrcD C W es S2) : WalkD C W (Iter2 C.X.K S S2) (zipD ds es) := by
  have hl : (zipD ds es).length = min ds.length es.length := by simp [zipD]
  refine ⟨fun H => S.len C.X.K H ds.length ∧ S2.len C.X.K H es.length ∧ (∀ i, i < ds.length → ∃ v, S.has C.X.K H i v) ∧ ∀ i, i < es.length → ∃ v, S2.has C.X.K H i v,
    fun i H v H' => ∃ T x y o, v = .ref T ∧ H T = none ∧ o.dict = none ∧ H' = upd H T (.frz o (.tup [x, y])) ∧ S.all C.X.K H i x ∧ S2.all C.X.K H i y, ?_,
    fun W' st l k => ⟨(h.lat l).len k, (h2.lat l).len k, fun i hi => (h.lat l).has k hi, fun i hi => (h2.lat l).has k hi⟩, fun i W' st x H' hi l k y => ?_⟩
  · rw [hl]
    exact ⟨fun i H hi q => ⟨q.2.2.1 i (by omega), q.2.2.2 i (by omega), _, _, q.1, q.2.1, by omega, by omega⟩, fun H q => ⟨_, _, q.1, q.2.1, rfl⟩, fun i H x H' hi q y => y⟩
  · rw [hl] at hi
    obtain ⟨T, x', y', o, e1, hT, ho, e2, ha, hb⟩ := y
    subst e1 e2
    obtain ⟨d, h3, h4⟩ := (h.lat l).all k ha (by omega)
    obtain ⟨d', h5, h6⟩ := (h2.lat l).all k hb (by omega)
    refine ⟨W'.newT T o [x', y'], .tup [d, d'], rfl, newT_ext k hT, newT_ok k hT, ?_, newT_rp k hT ho ?_⟩
    · simp [zipD, List.getElem?_zipWith, h3, h5]
    · simp only [RpL]
      exact ⟨_, _, rfl, h4, _, _, rfl, h6, rfl⟩
end
end Sm


set_option Elab.async false
set_option linter.all false
set_option maxRecDepth 100000
set_option maxHeartbeats 1000000
/-! Sm8: calls of built-ins, methods; what changes a list of one's own or a cell of the store. -/
namespace Sm
open PySem PySem.Spec L2

/-! ### iterables as expressions -/
@[simp] def iSeq (m : Ex) : Lx := fun env => bnd (m env) fun d => lift (seqD d)
def iEnumS (m : Ex) : Lx := fun env => bnd (m env) fun d => lift ((seqD d).map (enumD 0))
def iZipS (a b : Ex) : Lx := fun env => bnd (a env) fun x => bnd (b env) fun y => lift ((seqD x).bind fun xs => (seqD y).map fun ys => zipD xs ys)
def rngD (lo hi : Int) : List D := (List.range (hi - lo).toNat).map fun i => .int (lo + (i : Nat))
def sm62 (i : Int) : Bool := decide (-(2 ^ 62) ≤ i ∧ i < 2 ^ 62)
def iRng1S (m : Ex) : Lx := fun env => bnd (m env) fun d => lift (match d with | .int j => if sm62 j = true then some (rngD 0 j) else none | _ => none)
def iRng2S (a b : Ex) : Lx := fun env => bnd (a env) fun x => bnd (b env) fun y => lift (match x, y with | .int i, .int j => if (sm62 i && sm62 j) = true then some (rngD i j) else none | _, _ => none)
section
variable {X : Cx} {tg e e2 : Expr} {te : TE} {ta : TA} {pins : List (Addr × Obj)} {σ : L2.St} {H : Hp} {s : Shared}
theorem pi_src {l : Expr} {tl : TE} (hl : PE X l tl) : PI X tg l (fun σ H R => tl σ H fun x H1 => ∃ S : Src, S.ofV x ∧ (∃ n, S.len X.K H1 n) ∧ R (S.it X.K) H1) := by
  refine ⟨fun pins s σ H R I h => ?_⟩
  refine thn (hl.run pins s σ H _ I h) fun v s1 ⟨x, H1, I1, r1, S, ex, ⟨n, hn⟩, q⟩ => ?_
  cases S with
  | lst a =>
    cases ex
    cases r1
    obtain ⟨xs, hq, _⟩ := hn
    obtain ⟨its, rv, p, hz⟩ := I1.list hq
    refine wpAny_pyIter_list p.isList ?_
    refine ⟨s1.heap.objs.size, [s1.heap.objs.size], _, _, H1, rfl, I1.kept (t' := s1.toks) fun b o e => Heap.get?_push_of_some _ e, turn_list a _, ⟨_, Heap.get?_push_size _ rfl, rfl, rfl⟩, fun b hb => ?_, q⟩
    have e : b = s1.heap.objs.size := by simpa using hb
    subst e
    exact I1.fpOk (Nat.le_refl _) (I1.hok.fresh (Nat.le_refl _))
  | tup a =>
    cases ex
    cases r1
    obtain ⟨xs, hq, _⟩ := hn
    obtain ⟨its, rv, p, hz⟩ := I1.tuple hq
    refine wpAny_pyIter_tuple (show s1.heap.IsTuple a its.toArray from p) ?_
    refine ⟨s1.heap.objs.size, [s1.heap.objs.size], _, _, H1, rfl, I1.kept (t' := s1.toks) fun b o e => Heap.get?_push_of_some _ e, turn_tuple a _, ⟨_, Heap.get?_push_size _ rfl, rfl, rfl⟩, fun b hb => ?_, q⟩
    have e : b = s1.heap.objs.size := by simpa using hb
    subst e
    exact I1.fpOk (Nat.le_refl _) (I1.hok.fresh (Nat.le_refl _))
  | txt x =>
    cases ex
    obtain ⟨t, rfl⟩ := r1
    cases ha : x.cps.all (· < 128)
    · exact wpAny_pyIter_wide ha (pi_one (tk := s1.toks) I1 _ (turn_str _ x t "str_iterator" (.inr rfl)) ⟨_, Heap.get?_push_size _ rfl, rfl, rfl⟩ q)
    · exact wpAny_pyIter_ascii ha (pi_one (tk := s1.toks) I1 _ (turn_str _ x t "str_ascii_iterator" (.inl rfl)) ⟨_, Heap.get?_push_size _ rfl, rfl, rfl⟩ q)
theorem pi_enumS {p pos tpos : Pos} {elts : List Expr} {kk : Nat} (hg : Gl X "enumerate") (hm : X.mg "enumerate" = none) (ha : PA X [e] ta) (hs : starEach [e] X.env = [(false, eval e X.env)] := by rfl) :
    PI X (.Tuple elts kk tpos) (.Call (.Name "enumerate" p) [e] [] pos) (fun σ H R => ta σ H fun vs H1 => ∃ (x : V) (S : Src), vs = [x] ∧ S.ofV x ∧ (∃ n, S.len X.K H1 n) ∧ R (Iter1 X.K S) H1) := by
  refine ⟨fun pins s σ H R I h => ?_⟩
  refine PyProof.Rows.Call_ (ld_blt I hg hm PyProof.Rows.boot_enumerate (PyProof.Rows.callWith_type1 (thn (ha.run pos pins s σ H _ I h) fun us s1 ⟨vs, H1, I1, r1, x, S, ev, ex, ⟨n, hn⟩, q⟩ => ?_) hs rfl))
  subst ev
  obtain ⟨u, rfl, ru⟩ := vals1 r1
  obtain ⟨o, φ, B, hφ, hit⟩ := S.begins I1 (S.ofV_val ex ru) hn
  refine enum_begins1 B hφ fun h' he ho hsz hk => wpAny_pyIter_enum he ?_
  have I2 : Inv X pins σ H1 { s1 with heap := h' } := I1.kept (t' := s1.toks) hk
  refine ⟨s1.heap.objs.size + 1, [s1.heap.objs.size + 1, s1.heap.objs.size], _, _, H1, rfl, I2, turn_enumS S (s1.heap.objs.size + 1) s1.heap.objs.size, ⟨⟨.none, he⟩, hit _ _ ho, Nat.succ_ne_self _⟩, fun b hb => ?_, q⟩
  have e' : b = s1.heap.objs.size + 1 ∨ b = s1.heap.objs.size := by simpa using hb
  have hle : s1.heap.objs.size ≤ b := by
    rcases e' with z | z
    · rw [z]; exact Nat.le_add_right _ _
    · rw [z]; exact Nat.le_refl _
  exact I1.fpOk hle (I1.hok.fresh hle)
theorem pi_zipS {p pos tpos : Pos} {elts : List Expr} {kk : Nat} (hg : Gl X "zip") (hm : X.mg "zip" = none) (ha : PA X [e, e2] ta)
    (hs : starEach [e, e2] X.env = (false, eval e X.env) :: starEach [e2] X.env := by rfl) (hpl : (backTo pos (starEach [e2] X.env)).any (·.1) = false := by rfl) :
    PI X (.Tuple elts kk tpos) (.Call (.Name "zip" p) [e, e2] [] pos) (fun σ H R => ta σ H fun vs H1 => ∃ (x y : V) (S1 S2 : Src), vs = [x, y] ∧ S1.ofV x ∧ S2.ofV y ∧ (∃ n, S1.len X.K H1 n) ∧ (∃ n, S2.len X.K H1 n) ∧ R (Iter2 X.K S1 S2) H1) := by
  refine ⟨fun pins s σ H R I h => ?_⟩
  refine PyProof.Rows.Call_ (ld_blt I hg hm PyProof.Rows.boot_zip (PyProof.Rows.callWith_type1 (thn (ha.run pos pins s σ H _ I h) fun us s1 ⟨vs, H1, I1, r1, x, y, S1, S2, ev, ex, ey, ⟨n1, hn1⟩, ⟨n2, hn2⟩, q⟩ => ?_) hs hpl))
  subst ev
  obtain ⟨u1, u2, rfl, r1, r2⟩ := vals2 r1
  obtain ⟨o1, φ1, B1, h1, it1⟩ := S1.begins I1 (S1.ofV_val ex r1) hn1
  obtain ⟨o2, φ2, B2, h2, it2⟩ := S2.begins I1 (S2.ofV_val ey r2) hn2
  refine zip_begins2 B1 B2 h1 h2 fun h' hz hTI hTO g1 g2 hsz hk => wpAny_pyIter_zip hz ?_
  have I2 : Inv X pins σ H1 { s1 with heap := h' } := I1.kept (t' := s1.toks) hk
  refine ⟨s1.heap.objs.size + 4, [s1.heap.objs.size + 4, s1.heap.objs.size + 2, s1.heap.objs.size + 3, s1.heap.objs.size, s1.heap.objs.size + 1], _, _, H1, rfl, I2, turn_zipS (zip_sepS (Src.under_of I1 hn1) (Src.under_of I1 hn2)), ⟨hz, hTI, ⟨_, _, hTO⟩, it1 _ _ g1, it2 _ _ g2⟩, fun c hcm => ?_, q⟩
  have e' : c = s1.heap.objs.size + 4 ∨ c = s1.heap.objs.size + 2 ∨ c = s1.heap.objs.size + 3 ∨ c = s1.heap.objs.size ∨ c = s1.heap.objs.size + 1 := by simpa using hcm
  have hle : s1.heap.objs.size ≤ c := by
    rcases e' with z | z | z | z | z
    · rw [z]; exact Nat.le_add_right _ _
    · rw [z]; exact Nat.le_add_right _ _
    · rw [z]; exact Nat.le_add_right _ _
    · rw [z]; exact Nat.le_refl _
    · rw [z]; exact Nat.le_add_right _ _
  exact I1.fpOk hle (I1.hok.fresh hle)
end
section
variable {C : Cn} {κ : Kd} {tg e e2 : Expr} {me me2 : Ex} {p pos tpos : Pos} {elts : List Expr} {kk : Nat}
theorem si_seq (he : SE C .froz e me) : SI C tg e (iSeq me) := PI.imp (pi_src he) fun σ H Q ⟨env, W, st, e, R, o⟩ => by
  subst e
  refine ⟨env, W, st, rfl, R, (Out.bnd o).imp fun d st1 o1 v W1 e1 k1 r1 => ?_⟩
  cases q : seqD d with
  | none => rw [q] at o1; exact (show False from o1).elim
  | some ds =>
    rw [q] at o1
    obtain ⟨S, h1, h2⟩ := src_of r1 q
    exact ⟨S, h2, ⟨_, h1.len k1⟩, (show (∀ J W', Ext W W' → C.ok W' st1 → WalkD C W' J ds → Q J W'.H) from o1) _ W1 e1 k1 h1.walk⟩
theorem si_enum (hg : Gl C.X "enumerate") (hm : C.X.mg "enumerate" = none) (he : SE C .froz e me) (hs : starEach [e] C.X.env = [(false, eval e C.X.env)] := by rfl) : SI C (.Tuple elts kk tpos) (.Call (.Name "enumerate" p) [e] [] pos) (iEnumS me) :=
  PI.imp (pi_enumS hg hm (pa_cons he pa_nil hs) hs) fun σ H Q ⟨env, W, st, e, R, o⟩ => by
    subst e
    refine ⟨env, W, st, rfl, R, (Out.bnd o).imp fun d st1 o1 v W1 e1 k1 r1 => ?_⟩
    cases q : seqD d with
    | none => rw [q] at o1; exact (show False from o1).elim
    | some ds =>
      rw [q] at o1
      obtain ⟨S, h1, h2⟩ := src_of r1 q
      exact ⟨v, S, rfl, h2, ⟨_, h1.len k1⟩, (show (∀ J W', Ext W W' → C.ok W' st1 → WalkD C W' J (enumD 0 ds) → Q J W'.H) from o1) _ W1 e1 k1 h1.enum⟩
theorem si_zip (hg : Gl C.X "zip") (hm : C.X.mg "zip" = none) (he : SE C .froz e me) (he2 : SE C .froz e2 me2)
    (hs : starEach [e, e2] C.X.env = (false, eval e C.X.env) :: starEach [e2] C.X.env := by rfl) (hs2 : starEach [e2] C.X.env = [(false, eval e2 C.X.env)] := by rfl) (hpl : (backTo pos (starEach [e2] C.X.env)).any (·.1) = false := by rfl) : SI C (.Tuple elts kk tpos) (.Call (.Name "zip" p) [e, e2] [] pos) (iZipS me me2) :=
  PI.imp (pi_zipS hg hm (pa_cons he (pa_cons he2 pa_nil hs2) hs) hs hpl) fun σ H Q ⟨env, W, st, e, R, o⟩ => by
    subst e
    refine ⟨env, W, st, rfl, R, (Out.bnd o).imp fun d st1 o1 v W1 e1 k1 r1 => ⟨env, W1, st1, rfl, R.up e1 k1, ((Out.bnd o1).up e1).imp fun d2 st2 o2 v2 W2 e2 k2 r2 => ?_⟩⟩
    cases q : seqD d with
    | none => rw [q] at o2; exact (show False from o2).elim
    | some ds =>
      cases q2 : seqD d2 with
      | none => rw [q, q2] at o2; exact (show False from o2).elim
      | some ds2 =>
        rw [q, q2] at o2
        obtain ⟨S, h1, h2⟩ := src_of r1 q
        obtain ⟨S', h3, h4⟩ := src_of r2 q2
        have h1' := h1.lat e2.lat
        exact ⟨v, v2, S, S', rfl, h2, h4, ⟨_, h1'.len k2⟩, ⟨_, h3.len k2⟩, (show (∀ J W', Ext W W' → C.ok W' st2 → WalkD C W' J (zipD ds ds2) → Q J W'.H) from o2) _ W2 (e1.trans e2) k2 (h1'.zip h3)⟩
theorem walk_rng {W : Wd} {lo hi : Int} : WalkD C W (Itr lo (hi - lo).toNat) (rngD lo hi) := by
  have hl : (rngD lo hi).length = (hi - lo).toNat := by simp [rngD]
  refine ⟨fun _ => True, YFn fun i => .int (lo + (i : Nat)), by rw [hl]; exact walk_range, fun W' st l k => trivial, fun i W' st x H' hi l k y => ?_⟩
  obtain ⟨e, ex⟩ := y
  subst e ex
  rw [hl] at hi
  exact ⟨W', .int (lo + (i : Nat)), rfl, .refl W', k, by simp [rngD, hi], by simp [Cn.rp, Rp]⟩
theorem sm62_is {i : Int} (h : sm62 i = true) : -(2 ^ 62) ≤ i ∧ i < 2 ^ 62 := of_decide_eq_true h
theorem si_rng1 (hg : Gl C.X "range") (hm : C.X.mg "range" = none) (he : SE C κ e me) (hs : starEach [e] C.X.env = [(false, eval e C.X.env)] := by rfl) : SI C tg (.Call (.Name "range" p) [e] [] pos) (iRng1S me) :=
  PI.imp (pi_range1 hg hm (pa_cons he pa_nil hs) hs) fun σ H Q ⟨env, W, st, e, R, o⟩ => by
    subst e
    refine ⟨env, W, st, rfl, R, (Out.bnd o).imp fun d st1 o1 v W1 e1 k1 r1 => ?_⟩
    cases d with
    | int j =>
      have ev := r1.bor.int
      subst ev
      have o' : Out C σ W (lift (if sm62 j = true then some (rngD 0 j) else none) st1) _ := o1
      by_cases z : sm62 j = true
      · rw [if_pos z] at o'
        refine ⟨j, rfl, (sm62_is z).1, (sm62_is z).2, ?_⟩
        have := (show (∀ J W', Ext W W' → C.ok W' st1 → WalkD C W' J (rngD 0 j) → Q J W'.H) from o') _ W1 e1 k1 walk_rng
        simpa using this
      · rw [if_neg z] at o'; exact (show False from o').elim
    | _ => exact (show False from o1).elim
theorem si_rng2 {κ2 : Kd} (hg : Gl C.X "range") (hm : C.X.mg "range" = none) (he : SE C κ e me) (he2 : SE C κ2 e2 me2) (hs : starEach [e, e2] C.X.env = [(false, eval e C.X.env), (false, eval e2 C.X.env)] := by rfl) (hs2 : starEach [e2] C.X.env = [(false, eval e2 C.X.env)] := by rfl) :
    SI C tg (.Call (.Name "range" p) [e, e2] [] pos) (iRng2S me me2) :=
  PI.imp (pi_range2 hg hm (pa_cons he (pa_cons he2 pa_nil hs2) (by rw [hs, hs2])) hs hs2) fun σ H Q ⟨env, W, st, e, R, o⟩ => by
    subst e
    refine ⟨env, W, st, rfl, R, (Out.bnd o).imp fun d st1 o1 v W1 e1 k1 r1 => ⟨env, W1, st1, rfl, R.up e1 k1, ((Out.bnd o1).up e1).imp fun d2 st2 o2 v2 W2 e2 k2 r2 => ?_⟩⟩
    cases d with
    | int i =>
      cases d2 with
      | int j =>
        have ev := r1.bor.int
        have ev2 := r2.bor.int
        subst ev ev2
        have o' : Out C σ W (lift (if (sm62 i && sm62 j) = true then some (rngD i j) else none) st2) _ := o2
        by_cases z : (sm62 i && sm62 j) = true
        · rw [if_pos z] at o'
          obtain ⟨z1, z2⟩ := and2 z
          exact ⟨i, j, rfl, ⟨(sm62_is z1).1, (sm62_is z1).2, (sm62_is z2).1, (sm62_is z2).2⟩, (show (∀ J W', Ext W W' → C.ok W' st2 → WalkD C W' J (rngD i j) → Q J W'.H) from o') _ W2 (e1.trans e2) k2 walk_rng⟩
        · rw [if_neg z] at o'; exact (show False from o').elim
      | _ => exact (show False from o2).elim
    | _ => exact (show False from o2).elim
end
end Sm


set_option Elab.async false
set_option linter.all false
set_option maxRecDepth 100000
set_option maxHeartbeats 1000000
/-! Sm9: calls of built-ins. -/
namespace Sm
open PySem PySem.Spec L2
abbrev KEnd (C : Cn) (κ : Kd) (W : Wd) (Q : VK) (d : D) (st' : Store) : Prop := ∀ z W', Ext W W' → C.ok W' st' → C.rk κ W W' d z → Q z W'.H
/-- a call of f with values -/
def SFn (C : Cn) (κ : Kd) (f : Value) (g : List D → M D) : Prop :=
  ∀ (pins : List (Addr × Obj)) (s : Shared) (σ : L2.St) (W : Wd) (st : Store) (ds : List D) (vs : List V) (us : List Value) (Q : VK), Inv C.X pins σ W.H s → C.ok W st → BorL C.X.K C.X.mg W ds vs → Vals vs us →
    Out C σ W (g ds st) (KEnd C κ W Q) → wpAny (model C.X.prog C.X.w) C.X.A (call f us) (EP C.X pins σ Q) C.X.xe s
@[simp] def eFn (g : List D → M D) (m : Lx) : Ex := fun env => bnd (m env) g
/-- of one value -/
@[simp] def g1 (g : D → M D) : List D → M D := fun ds => match ds with
  | [d] => g d
  | _ => halt
@[simp] def g2 (g : D → D → M D) : List D → M D := fun ds => match ds with
  | [a, b] => g a b
  | _ => halt
section
variable {C : Cn} {κ : Kd} {e : Expr} {es : List Expr} {ml : Lx} {g : List D → M D} {id T : String} {x : Str} {p pos : Pos} {f : Value}
theorem SB.go {pins : List (Addr × Obj)} {s : Shared} {σ : L2.St} {env : En} {W : Wd} {st : Store} {Q : List Value → Shared → Prop} {pos : Pos} (h : SB C es ml) (I : Inv C.X pins σ W.H s) (R : SR C env W st σ)
    (o : Out C σ W (ml env st) fun ds st' => ∀ vs us s' W', Ext W W' → C.ok W' st' → BorL C.X.K C.X.mg W' ds vs → Inv C.X pins σ W'.H s' → Vals vs us → Q us s') :
    wpAny (model C.X.prog C.X.w) C.X.A (spliced (backTo pos (starEach es C.X.env))) Q C.X.xe s := by
  refine thn (h.run pos pins s σ W.H (fun vs H' => ∀ us s', Inv C.X pins σ H' s' → Vals vs us → Q us s') I ⟨env, W, st, rfl, R, o.imp fun d st' h v W' e k r u s' I' ru => h v u s' W' e k r I' ru⟩) fun u s' ⟨v, H', I', r, q⟩ => q u s' I' r
theorem fn_go {pins : List (Addr × Obj)} {s : Shared} {σ : L2.St} {env : En} {W : Wd} {st : Store} {Q : VK} {pos : Pos} (hf : SFn C κ f g) (ha : SB C es ml) (I : Inv C.X pins σ W.H s) (R : SR C env W st σ) (o : Out C σ W (eFn g ml env st) (KEnd C κ W Q)) :
    wpAny (model C.X.prog C.X.w) C.X.A (spliced (backTo pos (starEach es C.X.env))) (fun us s1 => wpAny (model C.X.prog C.X.w) C.X.A (call f us) (EP C.X pins σ Q) C.X.xe s1) C.X.xe s :=
  ha.go I R ((Out.bnd o).imp fun ds st1 o1 vs us s1 W1 e1 k1 r1 I1 rv => hf pins s1 σ W1 st1 ds vs us Q I1 k1 r1 rv ((o1.up e1).imp fun d st2 q z W2 e2 k2 r2 => q z W2 (e1.trans e2) k2 (r2.down e1)))
/-- f(e, ..) of a built-in function -/
theorem se_fnB (hf : SFn C κ (.builtin id) g) (hg : Gl C.X x) (hm : C.X.mg x = none) (hv : bootBuiltins x = some (.builtin id)) (ha : SB C (e :: es) ml) (hn : x ≠ "__name__" := by decide) (hdb : (x == ("__debug__" : Str)) = false := by decide)
    (he : starEach (e :: es) C.X.env = (false, eval e C.X.env) :: starEach es C.X.env := by rfl) (hpl : (backTo pos (starEach es C.X.env)).any (·.1) = false := by rfl) : SE C κ (.Call (.Name x p) (e :: es) [] pos) (eFn g ml) :=
  SE.mk fun pins s σ env W st Q I R o => wpAny_Call_Name_kw (ld_blt I hg hm hv (PyProof.Rows.callWith_builtin1 (fn_go hf ha I R o) he hpl) hn hdb)
/-- T(e, ..) of a built-in type -/
theorem se_fnT (hf : SFn C κ (.type T) g) (hg : Gl C.X x) (hm : C.X.mg x = none) (hv : bootBuiltins x = some (.type T)) (ha : SB C (e :: es) ml) (hn : x ≠ "__name__" := by decide) (hdb : (x == ("__debug__" : Str)) = false := by decide)
    (he : starEach (e :: es) C.X.env = (false, eval e C.X.env) :: starEach es C.X.env := by rfl) (hpl : (backTo pos (starEach es C.X.env)).any (·.1) = false := by rfl) : SE C κ (.Call (.Name x p) (e :: es) [] pos) (eFn g ml) :=
  SE.mk fun pins s σ env W st Q I R o => wpAny_Call_Name_kw (ld_blt I hg hm hv (PyProof.Rows.callWith_type1 (fn_go hf ha I R o) he hpl) hn hdb)
/-- by one value -/
theorem sfn1 {g : D → M D} (h : ∀ (pins : List (Addr × Obj)) (s : Shared) (σ : L2.St) (W : Wd) (st : Store) (d : D) (v : V) (u : Value) (Q : VK), Inv C.X pins σ W.H s → C.ok W st → Bor C.X.K C.X.mg W d v → RelV v u →
    Out C σ W (g d st) (KEnd C κ W Q) → wpAny (model C.X.prog C.X.w) C.X.A (call f [u]) (EP C.X pins σ Q) C.X.xe s) : SFn C κ f (g1 g) := by
  intro pins s σ W st ds vs us Q I k b r o
  match ds, b, o with
  | [], _, o => exact (show False from o).elim
  | [d], b, o =>
    obtain ⟨v, vr, ev, b1, b2⟩ := b
    obtain rfl : vr = [] := b2
    subst ev
    obtain ⟨u, rfl, ru⟩ := vals1 r
    exact h pins s σ W st d v u Q I k b1 ru o
  | _ :: _ :: _, _, o => exact (show False from o).elim
theorem sfn2 {g : D → D → M D} (h : ∀ (pins : List (Addr × Obj)) (s : Shared) (σ : L2.St) (W : Wd) (st : Store) (d d2 : D) (v v2 : V) (u u2 : Value) (Q : VK), Inv C.X pins σ W.H s → C.ok W st → Bor C.X.K C.X.mg W d v → Bor C.X.K C.X.mg W d2 v2 → RelV v u → RelV v2 u2 →
    Out C σ W (g d d2 st) (KEnd C κ W Q) → wpAny (model C.X.prog C.X.w) C.X.A (call f [u, u2]) (EP C.X pins σ Q) C.X.xe s) : SFn C κ f (g2 g) := by
  intro pins s σ W st ds vs us Q I k b r o
  match ds, b, o with
  | [], _, o => exact (show False from o).elim
  | [_], _, o => exact (show False from o).elim
  | [d, d2], b, o =>
    obtain ⟨v, vr, ev, b1, v2, vr2, ev2, b2, b3⟩ := b
    obtain rfl : vr2 = [] := b3
    subst ev2
    subst ev
    obtain ⟨u, u2, rfl, ru, ru2⟩ := vals2 r
    exact h pins s σ W st d d2 v v2 u u2 Q I k b1 b2 ru ru2 o
  | _ :: _ :: _ :: _, _, o => exact (show False from o).elim
end

/-! ### what reads as data -/
/-- a list or tuple of data, as the library reads it -/
structure SeqR (C : Cn) (W : Wd) (s : Shared) (lst : Bool) (ds : List D) (u : Value) : Prop where
  ex : ∃ (a : Addr) (vs : List V) (its : List Value) (l : List Addr), u = .ref a ∧ (if lst = true then s.heap.IsList a its.toArray else s.heap.IsTuple a its.toArray) ∧ Vals vs its ∧ ReadsAll s.heap its (pyL ds) l ∧ RpL C.X.K C.X.mg W.as W.G ds vs ∧ vs.length ≤ sizeLine
/-- lists (also of the script) and tuples -/
def lotD : D → Option (Bool × List D)
  | .lst xs => some (true, xs)
  | .scr xs => some (true, xs)
  | .tup xs => some (false, xs)
  | _ => none
section
variable {C : Cn} {pins : List (Addr × Obj)} {s : Shared} {σ : L2.St} {W : Wd} {st : Store} {d : D} {v : V} {u : Value} {n : Nat} {lst : Bool} {ds : List D}
theorem lot_vals (I : Inv C.X pins σ W.H s) (k : C.ok W st) (b : Bor C.X.K C.X.mg W d v) (r : RelV v u) (h : lotD d = some (lst, ds)) :
    ∃ (a : Addr) (vs : List V) (its : List Value), v = .ref a ∧ u = .ref a ∧ (if lst = true then s.heap.IsList a its.toArray else s.heap.IsTuple a its.toArray) ∧ (if lst = true then SqL C.X.K W.H a vs else SqT C.X.K W.H a vs) ∧ Vals vs its ∧ RpL C.X.K C.X.mg W.as W.G ds vs ∧ vs.length ≤ sizeLine := by
  cases d with
  | lst xs =>
    cases h
    obtain ⟨a, vs, ev, hp, l⟩ := b.lst k
    subst ev; cases r
    obtain ⟨its, rv, p, hz⟩ := I.list (.inl (.inl hp))
    exact ⟨a, vs, its, rfl, rfl, p.isList, .inl (.inl hp), rv, l, hz⟩
  | scr xs =>
    cases h
    obtain ⟨a, vs, ev, hp, l⟩ := b.scr k
    subst ev; cases r
    obtain ⟨its, rv, p, hz⟩ := I.list hp
    exact ⟨a, vs, its, rfl, rfl, p.isList, hp, rv, l, hz⟩
  | tup xs =>
    cases h
    obtain ⟨a, vs, ev, hp, l⟩ := b.tup k
    subst ev; cases r
    obtain ⟨its, rv, p, hz⟩ := I.tuple hp
    exact ⟨a, vs, its, rfl, rfl, p, hp, rv, l, hz⟩
  | _ => cases h
theorem lot_reads (I : Inv C.X pins σ W.H s) (hs : Sysm C.X.K) (k : C.ok W st) (b : Bor C.X.K C.X.mg W d v) (r : RelV v u) (h : lotD d = some (lst, ds)) (hd : datL n ds = true) : SeqR C W s lst ds u := by
  obtain ⟨a, vs, its, _, eu, hl, _, rv, l, hz⟩ := lot_vals I k b r h
  obtain ⟨l', h1, _⟩ := RpL.reads I hs k.sub n ds vs its hd l rv
  exact ⟨a, vs, its, l', eu, hl, rv, h1, l, hz⟩
end
theorem EP.bl {C : Cn} {κ : Kd} {pins : List (Addr × Obj)} {s : Shared} {σ : L2.St} {W : Wd} {st : Store} {Q : VK} {b : Bool} (I : Inv C.X pins σ W.H s) (k : C.ok W st) (o : KEnd C .froz W Q (.bl b) st) : EP C.X pins σ Q (.bool b) s := ⟨.bl b, W.H, I, rfl, o _ W (.refl W) k rk_bl⟩
theorem EP.int {C : Cn} {κ : Kd} {pins : List (Addr × Obj)} {s : Shared} {σ : L2.St} {W : Wd} {st : Store} {Q : VK} {i : Int} {t : Tok} (I : Inv C.X pins σ W.H s) (k : C.ok W st) (o : KEnd C .froz W Q (.int i) st) : EP C.X pins σ Q (.int i t) s := ⟨.int i, W.H, I, ⟨t, rfl⟩, o _ W (.refl W) k rk_int⟩
theorem EP.str {C : Cn} {κ : Kd} {pins : List (Addr × Obj)} {s : Shared} {σ : L2.St} {W : Wd} {st : Store} {Q : VK} {i : Str} {t : Tok} (I : Inv C.X pins σ W.H s) (k : C.ok W st) (o : KEnd C .froz W Q (.str i) st) : EP C.X pins σ Q (.str i t) s := ⟨.str i, W.H, I, ⟨t, rfl⟩, o _ W (.refl W) k rk_str⟩

/-! ### the functions -/
def lenD : D → Option D
  | .lst xs => some (.int xs.length)
  | .tup xs => some (.int xs.length)
  | .scr xs => some (.int xs.length)
  | .str z => if z.length ≤ line then some (.int z.length) else none
  | _ => none
def absD : D → Option D
  | .int i => some (.int (if i < 0 then -i else i))
  | _ => none
def intD : D → Option D
  | .int i => some (.int i)
  | .bl b => some (.int (if b then 1 else 0))
  | _ => none
def tupD : D → Option D
  | .lst xs => some (.tup xs)
  | .scr xs => some (.tup xs)
  | .tup xs => some (.tup xs)
  | _ => none
def listD : D → Option D
  | .lst xs => some (.lst xs)
  | .scr xs => some (.lst xs)
  | .tup xs => some (.lst xs)
  | _ => none
def intsD : List D → Option (List Int)
  | [] => some []
  | .int i :: r => (intsD r).map (i :: ·)
  | _ :: _ => none
theorem intsD_map : ∀ {ds : List D} {ns : List Int}, intsD ds = some ns → ds = ns.map D.int
  | [], ns, h => by cases h; rfl
  | .int i :: r, ns, h => by
    cases q : intsD r with
    | none => simp [intsD, q] at h
    | some ms =>
      simp [intsD, q] at h
      subst h
      rw [intsD_map q, List.map_cons]
  | .non :: _, _, h => by simp [intsD] at h
  | .bl _ :: _, _, h => by simp [intsD] at h
  | .str _ :: _, _, h => by simp [intsD] at h
  | .tup _ :: _, _, h => by simp [intsD] at h
  | .lst _ :: _, _, h => by simp [intsD] at h
  | .dct _ :: _, _, h => by simp [intsD] at h
  | .obj _ :: _, _, h => by simp [intsD] at h
  | .glo _ :: _, _, h => by simp [intsD] at h
  | .scr _ :: _, _, h => by simp [intsD] at h
def sumD (d : D) : Option D := (lotD d).bind fun p => (intsD p.2).map fun ns => .int ns.sum
def trD : D → Option Bool
  | .non => some false
  | .bl b => some b
  | .int i => some (i != 0)
  | .str z => if z.length ≤ line then some ((z.length : Int) != 0) else none
  | .tup xs => some (!xs.isEmpty)
  | .lst xs => some (!xs.isEmpty)
  | _ => none
/-- every item's truth is known -/
def trL : List D → Option (List Bool)
  | [] => some []
  | d :: r => (trD d).bind fun b => (trL r).map (b :: ·)
def anyD (d : D) : Option D := (lotD d).bind fun p => if shpL 60 p.2 = true then (trL p.2).map fun bs => .bl (bs.any id) else none
def allD (d : D) : Option D := (lotD d).bind fun p => if shpL 60 p.2 = true then (trL p.2).map fun bs => .bl (bs.all id) else none
section
variable {C : Cn}
theorem sf_len : SFn C .froz (.builtin "len") (g1 fun d => lift (lenD d)) := sfn1 fun pins s σ W st d v u Q I k b ru o => by
  have seq : ∀ {ds : List D} {lst : Bool}, lotD d = some (lst, ds) → KEnd C .froz W Q (.int ds.length) st → wpAny (model C.X.prog C.X.w) C.X.A (call (.builtin "len") [u]) (EP C.X pins σ Q) C.X.xe s := fun {ds lst} h q => by
    obtain ⟨a, vs, its, ev, eu, _, sq, rv, l, hz⟩ := lot_vals I k b ru h
    refine call_len_seq pins s σ W.H [v] [u] Q I (.cons ru .nil) ⟨a, vs, by rw [ev], ?_, ?_⟩
    · cases lst with
      | true => rw [if_pos rfl] at sq; exact .inl sq
      | false => rw [if_neg Bool.false_ne_true] at sq; exact .inr sq
    · rw [← l.len]; exact q _ W (.refl W) k rk_int
  cases d with
  | lst xs => exact seq rfl o
  | tup xs => exact seq rfl o
  | scr xs => exact seq rfl o
  | str z =>
    have ev := b.str
    subst ev
    have o' : Out C σ W (lift (if z.length ≤ line then some (D.int z.length) else none) st) _ := o
    by_cases hz : z.length ≤ line
    · rw [if_pos hz] at o'
      exact call_len_str pins s σ W.H _ [u] Q I (.cons ru .nil) ⟨z, rfl, by rw [← line_eq]; exact hz, o' _ W (.refl W) k rk_int⟩
    · rw [if_neg hz] at o'; exact (show False from o').elim
  | _ => exact (show False from o).elim
theorem sf_abs : SFn C .froz (.builtin "abs") (g1 fun d => lift (absD d)) := sfn1 fun pins s σ W st d v u Q I k b ru o => by
  cases d with
  | int i =>
    have ev := b.int
    subst ev
    exact call_abs pins s σ W.H _ [u] Q I (.cons ru .nil) ⟨i, rfl, Out.get o _ W (.refl W) k rk_int⟩
  | _ => exact (show False from o).elim
theorem sf_int : SFn C .froz (.type "int") (g1 fun d => lift (intD d)) := sfn1 fun pins s σ W st d v u Q I k b ru o => by
  cases d with
  | int i =>
    have ev := b.int
    subst ev
    exact call_int1 pins s σ W.H _ [u] Q I (.cons ru .nil) (.inl ⟨i, rfl, Out.get o _ W (.refl W) k rk_int⟩)
  | bl i =>
    have ev := b.bl
    subst ev
    exact call_int1 pins s σ W.H _ [u] Q I (.cons ru .nil) (.inr ⟨i, rfl, Out.get o _ W (.refl W) k rk_int⟩)
  | _ => exact (show False from o).elim
theorem out_lift {α : Type} {x : Option α} {σ : L2.St} {W : Wd} {st : Store} {k : α → Store → Prop} (o : Out C σ W (lift x st) k) : ∃ a, x = some a ∧ k a st := by
  cases x with
  | none => exact (show False from o).elim
  | some a => exact ⟨a, rfl, o⟩
theorem Bor.froz_tup {W : Wd} {ds : List D} {v : V} (h : Bor C.X.K C.X.mg W (.tup ds) v) : C.rp W (.tup ds) v := by
  rcases h with h | ⟨_, _, _, h⟩
  · exact h
  · exact h.elim
theorem sf_tup : SFn C .froz (.type "tuple") (g1 fun d => lift (tupD d)) := sfn1 fun pins s σ W st d v u Q I k b ru o => by
  have seq : ∀ {ds : List D}, lotD d = some (true, ds) → KEnd C .froz W Q (.tup ds) st → wpAny (model C.X.prog C.X.w) C.X.A (call (.type "tuple") [u]) (EP C.X pins σ Q) C.X.xe s := fun {ds} h q => by
    obtain ⟨a, vs, its, ev, eu, hl, _, rv, l, hz⟩ := lot_vals I k b ru h
    subst eu
    rw [if_pos rfl] at hl
    have hlen := rv.length
    refine call_tuple_list hl (fun h' kp => ?_) (by simp only [List.size_toArray]; omega)
    have I1 : Inv C.X pins σ W.H { s with heap := h' } := I.kept (t' := s.toks) kp
    exact newTup (t := s.toks) (Q := Q) I1 rv hz fun p ob np no => q _ (W.newT p ob vs) (newT_ext k np) (newT_ok k np) (newT_rp k np no l)
  cases d with
  | lst xs => exact seq rfl o
  | scr xs => exact seq rfl o
  | tup xs =>
    obtain ⟨a, vs, its, ev, eu, hl, _, rv, l, hz⟩ := lot_vals I k b ru rfl
    subst ev eu
    rw [if_neg Bool.false_ne_true] at hl
    exact call_tuple_same hl ⟨.ref a, W.H, I, rfl, (show KEnd C .froz W Q (.tup xs) st from o) _ W (.refl W) k b.froz_tup⟩
  | _ => exact (show False from o).elim
theorem sf_list : SFn C .fresh (.type "list") (g1 fun d => lift (listD d)) := sfn1 fun pins s σ W st d v u Q I k b ru o => by
  have seq : ∀ {ds : List D} {lst : Bool}, lotD d = some (lst, ds) → KEnd C .fresh W Q (.lst ds) st → wpAny (model C.X.prog C.X.w) C.X.A (call (.type "list") [u]) (EP C.X pins σ Q) C.X.xe s := fun {ds lst} h q => by
    obtain ⟨a, vs, its, ev, eu, _, sq, rv, l, hz⟩ := lot_vals I k b ru h
    refine call_list_of pins s σ W.H [v] [u] Q I (.cons ru .nil) ⟨a, vs, by rw [ev], ?_, fun p np => q _ (W.new p (.lst vs)) (new_ext np) (new_ok k np) (new_lst k np l)⟩
    cases lst with
    | true => rw [if_pos rfl] at sq; exact .inl sq
    | false => rw [if_neg Bool.false_ne_true] at sq; exact .inr sq
  cases d with
  | lst xs => exact seq rfl o
  | tup xs => exact seq rfl o
  | scr xs => exact seq rfl o
  | _ => exact (show False from o).elim
theorem sf_sum (hc : C.X.calm = true) : SFn C .froz (.builtin "sum") (g1 fun d => lift (sumD d)) := sfn1 fun pins s σ W st d v u Q I k b ru o => by
  obtain ⟨dd, hd, o2⟩ := out_lift o
  unfold sumD at hd
  cases q : lotD d with
  | none => rw [q] at hd; cases hd
  | some p =>
    obtain ⟨lst, ds⟩ := p
    rw [q] at hd
    have hd : (intsD ds).map (fun ns => D.int ns.sum) = some dd := hd
    cases q2 : intsD ds with
    | none => rw [q2] at hd; cases hd
    | some ns =>
      rw [q2] at hd
      cases hd
      obtain ⟨a, vs, its, ev, eu, hl, sq, rv, l, hz⟩ := lot_vals I k b ru q
      rw [intsD_map q2] at l
      have evs := RpL.ints (ds := []) l
      subst evs eu
      cases lst with
      | true =>
        rw [if_pos rfl] at sq
        exact cr_sum hc pins s σ W.H [v] [.ref a] Q I (.cons ru .nil) ⟨a, ns, by rw [ev], sq, o2 _ W (.refl W) k rk_int⟩
      | false =>
        rw [if_neg Bool.false_ne_true] at hl
        obtain ⟨xs, hx⟩ := (rv.ints).allInts.items
        have hn : numsOf its.toArray.toList = ns := by rw [show its.toArray.toList = its from rfl, (rv.ints).numsOf]
        rw [hx] at hl hn
        rw [nums_intItems] at hn
        refine PySem.W.ktm_sumG (I.ok.hd hc) hl fun h' tk t' hk => ?_
        have e : preSum (numAt xs) xs.size = ns.sum := by rw [preSum_eq, List.take_of_length_le (by simp), hn]
        rw [e]
        exact EP.int (κ := .froz) (I.kept (t' := tk) hk) k o2

theorem pyL_len : ∀ ds : List D, (pyL ds).length = ds.length
  | [] => rfl
  | _ :: ds => by simp [pyL, pyL_len ds]
theorem tr_one {d : D} {b : Bool} (h : trD d = some b) (hsh : shp 60 d = true) (hl : ∀ xs, (d = .tup xs ∨ d = .lst xs) → xs.length ≤ line) : d.py.truthy = b ∧ d.py.fits63 := by
  have e63 : (line : Int) < 2 ^ 63 := by decide
  cases d with
  | non => cases h; exact ⟨rfl, trivial⟩
  | bl i => cases h; exact ⟨rfl, trivial⟩
  | int i => cases h; exact ⟨rfl, trivial⟩
  | str z =>
    have h : (if z.length ≤ line then some ((z.length : Int) != 0) else none) = some b := h
    by_cases hz : z.length ≤ line
    · rw [if_pos hz] at h
      cases h
      refine ⟨rfl, ?_⟩
      show (z.length : Int) < 2 ^ 63
      omega
    · rw [if_neg hz] at h; cases h
  | tup xs =>
    cases h
    refine ⟨?_, ?_⟩
    · show (!(pyL xs).isEmpty) = !xs.isEmpty
      cases xs <;> rfl
    · show ((pyL xs).length : Int) < 2 ^ 63
      have := hl xs (.inl rfl)
      rw [pyL_len]; omega
  | lst xs =>
    cases h
    refine ⟨?_, ?_⟩
    · show (!(pyL xs).isEmpty) = !xs.isEmpty
      cases xs <;> rfl
    · show ((pyL xs).length : Int) < 2 ^ 63
      have := hl xs (.inr rfl)
      rw [pyL_len]; omega
  | _ => cases h
theorem tr_all : ∀ {ds : List D} {bs : List Bool}, trL ds = some bs → shpL 60 ds = true → (∀ d ∈ ds, ∀ xs, (d = .tup xs ∨ d = .lst xs) → xs.length ≤ line) → (pyL ds).map PyData.truthy = bs ∧ ∀ x ∈ pyL ds, x.fits63
  | [], bs, h, _, _ => by cases h; exact ⟨rfl, fun x hx => by cases hx⟩
  | d :: ds, bs, h, hs, hl => by
    unfold trL at h
    cases q : trD d with
    | none => rw [q] at h; cases h
    | some b =>
      rw [q] at h
      have h : (trL ds).map (b :: ·) = some bs := h
      cases q2 : trL ds with
      | none => rw [q2] at h; cases h
      | some bs' =>
        rw [q2] at h
        cases h
        simp only [shpL, Bool.and_eq_true] at hs
        obtain ⟨h1, h2⟩ := tr_one q hs.1 (hl d List.mem_cons_self)
        obtain ⟨h3, h4⟩ := tr_all q2 hs.2 fun d' hd => hl d' (List.mem_cons_of_mem _ hd)
        refine ⟨by simp [pyL, h1, h3], fun x hx => ?_⟩
        rcases List.mem_cons.mp (show x ∈ d.py :: pyL ds from hx) with e | hx
        · rw [e]; exact h2
        · exact h4 x hx
/-- what stands for a list or tuple is not too long -/
theorem rp_len {pins : List (Addr × Obj)} {s : Shared} {σ : L2.St} {W : Wd} {st : Store} (I : Inv C.X pins σ W.H s) (k : C.ok W st) : ∀ {ds : List D} {vs : List V}, RpL C.X.K C.X.mg W.as W.G ds vs → ∀ d ∈ ds, ∀ xs, (d = .tup xs ∨ d = .lst xs) → xs.length ≤ line
  | [], _, _, d, hd, _, _ => by cases hd
  | d :: ds, vs, h, d', hd, xs, hx => by
    simp only [RpL] at h
    obtain ⟨v, r, _, h1, h2⟩ := h
    rcases List.mem_cons.mp hd with e | hd
    · subst e
      rw [line_eq]
      rcases hx with e | e
      · subst e
        simp only [Rp] at h1
        obtain ⟨a, ys, _, sq, _, l⟩ := h1
        obtain ⟨_, _, _, hz⟩ := I.tuple (SqT.up k.sub sq)
        rw [l.len]; exact hz
      · subst e
        simp only [Rp] at h1
        obtain ⟨a, ys, _, sq, l⟩ := h1
        obtain ⟨_, _, _, hz⟩ := I.list (.inl (.inl (k.sub _ _ sq)))
        rw [l.len]; exact hz
    · exact rp_len I k h2 d' hd xs hx
theorem any_map {α β : Type} (f : α → β) (p : β → Bool) : ∀ xs : List α, (xs.map f).any p = xs.any (fun x => p (f x)) := fun xs => by simp [List.any_map, Function.comp_def]
theorem sf_any (hc : C.X.calm = true) (hs : Sysm C.X.K) : SFn C .froz (.builtin "any") (g1 fun d => lift (anyD d)) := sfn1 fun pins s σ W st d v u Q I k b ru o => by
  obtain ⟨dd, hd, o2⟩ := out_lift o
  unfold anyD at hd
  cases q : lotD d with
  | none => rw [q] at hd; cases hd
  | some p =>
    obtain ⟨lst, ds⟩ := p
    rw [q] at hd
    have hd : (if shpL 60 ds = true then (trL ds).map (fun bs => D.bl (bs.any id)) else none) = some dd := hd
    by_cases hsh : shpL 60 ds = true
    · rw [if_pos hsh] at hd
      cases q2 : trL ds with
      | none => rw [q2] at hd; cases hd
      | some bs =>
        rw [q2] at hd
        cases hd
        obtain ⟨a, vs, its, l', eu, hl, rv, rr, l, hz⟩ := (lot_reads (n := 60) I hs k b ru q (datL_of_shp _ _ hsh)).ex
        subst eu
        obtain ⟨h1, h2⟩ := tr_all q2 hsh (rp_len I k l)
        have e : (pyL ds).any PyData.truthy = bs.any id := by rw [← h1, List.any_map]; rfl
        cases lst with
        | true =>
          rw [if_pos rfl] at hl
          exact PySem.W.any_list_data (I.ok.hd hc) hl rr (plainAll_of_shp _ _ hsh) h2 fun h' tk hk => by rw [e]; exact EP.bl (κ := .froz) (I.kept (t' := tk) hk) k o2
        | false =>
          rw [if_neg Bool.false_ne_true] at hl
          exact PySem.W.any_tuple_data (I.ok.hd hc) hl rr (plainAll_of_shp _ _ hsh) h2 fun h' tk hk => by rw [e]; exact EP.bl (κ := .froz) (I.kept (t' := tk) hk) k o2
    · rw [if_neg hsh] at hd; cases hd
theorem sf_all (hc : C.X.calm = true) (hs : Sysm C.X.K) : SFn C .froz (.builtin "all") (g1 fun d => lift (allD d)) := sfn1 fun pins s σ W st d v u Q I k b ru o => by
  obtain ⟨dd, hd, o2⟩ := out_lift o
  unfold allD at hd
  cases q : lotD d with
  | none => rw [q] at hd; cases hd
  | some p =>
    obtain ⟨lst, ds⟩ := p
    rw [q] at hd
    have hd : (if shpL 60 ds = true then (trL ds).map (fun bs => D.bl (bs.all id)) else none) = some dd := hd
    by_cases hsh : shpL 60 ds = true
    · rw [if_pos hsh] at hd
      cases q2 : trL ds with
      | none => rw [q2] at hd; cases hd
      | some bs =>
        rw [q2] at hd
        cases hd
        obtain ⟨a, vs, its, l', eu, hl, rv, rr, l, hz⟩ := (lot_reads (n := 60) I hs k b ru q (datL_of_shp _ _ hsh)).ex
        subst eu
        obtain ⟨h1, h2⟩ := tr_all q2 hsh (rp_len I k l)
        have e : (pyL ds).all PyData.truthy = bs.all id := by rw [← h1, List.all_map]; rfl
        cases lst with
        | true =>
          rw [if_pos rfl] at hl
          exact PySem.W.all_list_data (I.ok.hd hc) hl rr (plainAll_of_shp _ _ hsh) h2 fun h' tk hk => by rw [e]; exact EP.bl (κ := .froz) (I.kept (t' := tk) hk) k o2
        | false =>
          rw [if_neg Bool.false_ne_true] at hl
          exact PySem.W.all_tuple_data (I.ok.hd hc) hl rr (plainAll_of_shp _ _ hsh) h2 fun h' tk hk => by rw [e]; exact EP.bl (κ := .froz) (I.kept (t' := tk) hk) k o2
    · rw [if_neg hsh] at hd; cases hd
end
end Sm


set_option Elab.async false
set_option linter.all false
set_option maxRecDepth 100000
set_option maxHeartbeats 1000000
/-! Sm10: min, max, repr, isinstance; methods. -/
namespace Sm
open PySem PySem.Spec L2
mutual
theorem py_inj : ∀ (n m : Nat) (a b : D), shp n a = true → shp m b = true → a.py = b.py → a = b
  | n, m, .non, b, _, hb, h => by
    cases b with
    | non => rfl
    | obj i => simp [shp] at hb
    | glo i => simp [shp] at hb
    | scr i => simp [shp] at hb
    | _ => simp [D.py] at h
  | n, m, .bl x, b, _, hb, h => by
    cases b with
    | bl y => simp only [D.py] at h; cases h; rfl
    | _ => simp [D.py] at h
  | n, m, .int x, b, _, hb, h => by
    cases b with
    | int y => simp only [D.py] at h; cases h; rfl
    | _ => simp [D.py] at h
  | n, m, .str x, b, _, hb, h => by
    cases b with
    | str y => simp only [D.py] at h; cases h; rfl
    | _ => simp [D.py] at h
  | n, m, .tup xs, b, ha, hb, h => by
    cases b with
    | tup ys =>
      cases n with
      | zero => simp [shp] at ha
      | succ n =>
        cases m with
        | zero => simp [shp] at hb
        | succ m =>
          simp only [shp] at ha hb
          simp only [D.py] at h
          injection h with h
          rw [pyL_inj n m xs ys ha hb h]
    | _ => simp [D.py] at h
  | n, m, .lst xs, b, ha, hb, h => by
    cases b with
    | lst ys =>
      cases n with
      | zero => simp [shp] at ha
      | succ n =>
        cases m with
        | zero => simp [shp] at hb
        | succ m =>
          simp only [shp] at ha hb
          simp only [D.py] at h
          injection h with h
          rw [pyL_inj n m xs ys ha hb h]
    | _ => simp [D.py] at h
  | n, m, .dct kvs, b, ha, _, _ => by simp [shp] at ha
  | n, m, .obj i, b, ha, _, _ => by simp [shp] at ha
  | n, m, .glo i, b, ha, _, _ => by simp [shp] at ha
  | n, m, .scr i, b, ha, _, _ => by simp [shp] at ha
theorem pyL_inj : ∀ (n m : Nat) (a b : List D), shpL n a = true → shpL m b = true → pyL a = pyL b → a = b
  | n, m, [], b, _, _, h => by
    cases b with
    | nil => rfl
    | cons y ys => simp [pyL] at h
  | n, m, x :: xs, b, ha, hb, h => by
    cases b with
    | nil => simp [pyL] at h
    | cons y ys =>
      simp only [shpL, Bool.and_eq_true] at ha hb
      simp only [pyL, List.cons.injEq] at h
      rw [py_inj n m x y ha.1 hb.1 h.1, pyL_inj n m xs ys ha.2 hb.2 h.2]
end
/-- each two of them are alike, none of them None -/
def isNon : D → Bool
  | .non => true
  | _ => false
def alkL (ds : List D) : Bool := shpL 60 ds && ds.all fun x => !isNon x && ds.all fun y => PySem.W.alike x.py y.py
def minF (d : D) (ds : List D) : D := ds.foldl (fun a y => if D.lt y a = true then y else a) d
def maxF (d : D) (ds : List D) : D := ds.foldl (fun a y => if D.lt a y = true then y else a) d
def minD' (d : D) : Option D := (lotD d).bind fun p => match p.2 with
  | [] => none
  | x :: xs => if alkL (x :: xs) = true then some (minF x xs) else none
def maxD' (d : D) : Option D := (lotD d).bind fun p => match p.2 with
  | [] => none
  | x :: xs => if alkL (x :: xs) = true then some (maxF x xs) else none
theorem minF_py : ∀ (ds : List D) (d : D), PySem.W.minD d.py (pyL ds) = (minF d ds).py
  | [], d => rfl
  | y :: ds, d => by
    have := minF_py ds (if D.lt y d = true then y else d)
    unfold minF at this ⊢
    unfold PySem.W.minD at this ⊢
    rw [pyL, List.foldl_cons, List.foldl_cons, ← this]
    congr 1
    unfold D.lt
    split <;> rfl
theorem maxF_py : ∀ (ds : List D) (d : D), PySem.W.maxD d.py (pyL ds) = (maxF d ds).py
  | [], d => rfl
  | y :: ds, d => by
    have := maxF_py ds (if D.lt d y = true then y else d)
    unfold maxF at this ⊢
    unfold PySem.W.maxD at this ⊢
    rw [pyL, List.foldl_cons, List.foldl_cons, ← this]
    congr 1
    unfold D.lt
    split <;> rfl
theorem foldl_mem {α : Type} (f : α → α → α) (hf : ∀ a b, f a b = a ∨ f a b = b) : ∀ (xs : List α) (x : α), xs.foldl f x ∈ x :: xs
  | [], x => by simp
  | y :: xs, x => by
    rw [List.foldl_cons]
    have := foldl_mem f hf xs (f x y)
    rcases List.mem_cons.mp this with h | h
    · rcases hf x y with e | e
      · rw [h, e]; exact List.mem_cons_self
      · rw [h, e]; exact List.mem_cons_of_mem _ List.mem_cons_self
    · exact List.mem_cons_of_mem _ (List.mem_cons_of_mem _ h)
theorem minF_mem (d : D) (ds : List D) : minF d ds ∈ d :: ds := foldl_mem _ (fun a b => by by_cases q : D.lt b a = true <;> simp [q]) ds d
theorem maxF_mem (d : D) (ds : List D) : maxF d ds ∈ d :: ds := foldl_mem _ (fun a b => by by_cases q : D.lt a b = true <;> simp [q]) ds d
theorem isNon_py {n : Nat} {d : D} (h : isNon d = false) (hs : shp n d = true) : d.py ≠ .none := by
  cases d with
  | non => cases h
  | obj i => simp [shp] at hs
  | glo i => simp [shp] at hs
  | scr i => simp [shp] at hs
  | _ => simp only [D.py]; intro z; cases z
theorem shp_mem {n : Nat} {ds : List D} (h : shpL n ds = true) {d : D} (hd : d ∈ ds) : shp n d = true := by
  rw [shpL_all, List.all_eq_true] at h
  exact h d hd
theorem alkL_is {ds : List D} (h : alkL ds = true) : shpL 60 ds = true ∧ PySem.W.AlikeAll (pyL ds) := by
  unfold alkL at h
  simp only [Bool.and_eq_true, List.all_eq_true, Bool.not_eq_true'] at h
  obtain ⟨h1, h2⟩ := h
  refine ⟨h1, fun x hx y hy => ?_, fun x hx => ?_⟩
  · rw [pyL_map] at hx hy
    obtain ⟨a, ha, rfl⟩ := List.mem_map.mp hx
    obtain ⟨b, hb, rfl⟩ := List.mem_map.mp hy
    exact (h2 a ha).2 b hb
  · rw [pyL_map] at hx
    obtain ⟨a, ha, rfl⟩ := List.mem_map.mp hx
    exact isNon_py (h2 a ha).1 (shp_mem h1 ha)
section
variable {C : Cn}
theorem best_fin {pins : List (Addr × Obj)} {s : Shared} {σ : L2.St} {W : Wd} {st : Store} {Q : VK} {ds : List D} {vs : List V} {its : List Value} {l : List Addr} {m : D} {i : Nat} {u : Value} {h' : Heap} {tk : Nat} {bs : List Addr}
    (I : Inv C.X pins σ W.H s) (k : C.ok W st) (o : KEnd C .froz W Q m st) (hsh : shpL 60 ds = true) (hm : m ∈ ds) (rv : Vals vs its) (rr : ReadsAll s.heap its (pyL ds) l) (lr : RpL C.X.K C.X.mg W.as W.G ds vs)
    (hu : its.toArray[i]? = some u) (hr : Reads h' u m.py bs) (hk : ∀ b o, s.heap.get? b = some o → h'.get? b = some o) : EP C.X pins σ Q u { s with heap := h', toks := tk } := by
  have hu' : its[i]? = some u := by simpa using hu
  have hi : i < vs.length := by
    rw [rv.length]
    by_cases q : i < its.length
    · exact q
    · rw [List.getElem?_eq_none (by omega)] at hu'; cases hu'
  obtain ⟨w, hw, rw'⟩ := rv.get (List.getElem?_eq_getElem hi)
  rw [hu'] at hw
  cases hw
  obtain ⟨d, hd, rd⟩ := RpL.get lr (List.getElem?_eq_getElem hi)
  obtain ⟨bs2, r2, _⟩ := PySem.W.readsAll_at rr i u hu'
  have e1 : (pyL ds).getD i .none = d.py := by
    rw [pyL_map, List.getD_eq_getElem?_getD, List.getElem?_map, hd]
    rfl
  rw [e1] at r2
  have e2 := (Reads.unique (PyProof.Rows.Reads.keeps hk r2) _ _ hr).1
  have e3 : d = m := py_inj 60 60 d m (shp_mem hsh (List.mem_of_getElem? hd)) (shp_mem hsh hm) e2
  subst e3
  exact ⟨vs[i], W.H, I.kept (t' := tk) hk, rw', o _ W (.refl W) k rd⟩
theorem sf_min (hc : C.X.calm = true) (hs : Sysm C.X.K) (hu : C.X.A.units + 64 < cLine) : SFn C .froz (.builtin "min") (g1 fun d => lift (minD' d)) := sfn1 fun pins s σ W st d v u Q I k b ru o => by
  obtain ⟨dd, hd, o2⟩ := out_lift o
  unfold minD' at hd
  cases q : lotD d with
  | none => rw [q] at hd; cases hd
  | some p =>
    obtain ⟨lst, ds⟩ := p
    rw [q] at hd
    cases ds with
    | nil => cases hd
    | cons x xs =>
      have hd : (if alkL (x :: xs) = true then some (minF x xs) else none) = some dd := hd
      by_cases ha : alkL (x :: xs) = true
      · rw [if_pos ha] at hd
        cases hd
        obtain ⟨hsh, hal⟩ := alkL_is ha
        obtain ⟨a, vs, its, l', eu, hl, rv, rr, l, hz⟩ := (lot_reads (n := 60) I hs k b ru q (datL_of_shp _ _ hsh)).ex
        subst eu
        have hdp := depthL_of_dat 60 _ (datL_of_shp _ _ hsh)
        cases lst with
        | true =>
          rw [if_pos rfl] at hl
          exact PySem.W.min_list_data (I.ok.hd hc) hl rr hal (by show C.X.A.units + 1 + PyData.depthAll (pyL (x :: xs)) < cLine; omega) fun i v h' tk bs hv hr hk => best_fin I k o2 hsh (minF_mem x xs) rv rr l hv (by rw [← minF_py]; exact hr) hk
        | false =>
          rw [if_neg Bool.false_ne_true] at hl
          exact PySem.W.min_tuple_data (I.ok.hd hc) hl rr hal (by show C.X.A.units + 1 + PyData.depthAll (pyL (x :: xs)) < cLine; omega) fun i v h' tk bs hv hr hk => best_fin I k o2 hsh (minF_mem x xs) rv rr l hv (by rw [← minF_py]; exact hr) hk
      · rw [if_neg ha] at hd; cases hd
theorem sf_max (hc : C.X.calm = true) (hs : Sysm C.X.K) (hu : C.X.A.units + 64 < cLine) : SFn C .froz (.builtin "max") (g1 fun d => lift (maxD' d)) := sfn1 fun pins s σ W st d v u Q I k b ru o => by
  obtain ⟨dd, hd, o2⟩ := out_lift o
  unfold maxD' at hd
  cases q : lotD d with
  | none => rw [q] at hd; cases hd
  | some p =>
    obtain ⟨lst, ds⟩ := p
    rw [q] at hd
    cases ds with
    | nil => cases hd
    | cons x xs =>
      have hd : (if alkL (x :: xs) = true then some (maxF x xs) else none) = some dd := hd
      by_cases ha : alkL (x :: xs) = true
      · rw [if_pos ha] at hd
        cases hd
        obtain ⟨hsh, hal⟩ := alkL_is ha
        obtain ⟨a, vs, its, l', eu, hl, rv, rr, l, hz⟩ := (lot_reads (n := 60) I hs k b ru q (datL_of_shp _ _ hsh)).ex
        subst eu
        have hdp := depthL_of_dat 60 _ (datL_of_shp _ _ hsh)
        cases lst with
        | true =>
          rw [if_pos rfl] at hl
          exact PySem.W.max_list_data (I.ok.hd hc) hl rr hal (by show C.X.A.units + 1 + PyData.depthAll (pyL (x :: xs)) < cLine; omega) fun i v h' tk bs hv hr hk => best_fin I k o2 hsh (maxF_mem x xs) rv rr l hv (by rw [← maxF_py]; exact hr) hk
        | false =>
          rw [if_neg Bool.false_ne_true] at hl
          exact PySem.W.max_tuple_data (I.ok.hd hc) hl rr hal (by show C.X.A.units + 1 + PyData.depthAll (pyL (x :: xs)) < cLine; omega) fun i v h' tk bs hv hr hk => best_fin I k o2 hsh (maxF_mem x xs) rv rr l hv (by rw [← maxF_py]; exact hr) hk
      · rw [if_neg ha] at hd; cases hd
/-- min(a, b), max(a, b) of ints -/
def min2D (a b : D) : Option D := match a, b with
  | .int i, .int j => some (.int (if j < i then j else i))
  | _, _ => none
def max2D (a b : D) : Option D := match a, b with
  | .int i, .int j => some (.int (if j > i then j else i))
  | _, _ => none
theorem sf_min2 (hc : C.X.calm = true) : SFn C .froz (.builtin "min") (g2 fun a b => lift (min2D a b)) := sfn2 fun pins s σ W st d d2 v v2 u u2 Q I k b b2 ru ru2 o => by
  cases d with
  | int i =>
    cases d2 with
    | int j =>
      have e1 := b.int
      have e2 := b2.int
      subst e1 e2
      exact call_min2 hc pins s σ W.H _ [u, u2] Q I (.cons ru (.cons ru2 .nil)) ⟨i, j, rfl, Out.get o _ W (.refl W) k rk_int⟩
    | _ => exact (show False from o).elim
  | _ => exact (show False from o).elim
theorem sf_max2 (hc : C.X.calm = true) : SFn C .froz (.builtin "max") (g2 fun a b => lift (max2D a b)) := sfn2 fun pins s σ W st d d2 v v2 u u2 Q I k b b2 ru ru2 o => by
  cases d with
  | int i =>
    cases d2 with
    | int j =>
      have e1 := b.int
      have e2 := b2.int
      subst e1 e2
      exact call_max2 hc pins s σ W.H _ [u, u2] Q I (.cons ru (.cons ru2 .nil)) ⟨i, j, rfl, Out.get o _ W (.refl W) k rk_int⟩
    | _ => exact (show False from o).elim
  | _ => exact (show False from o).elim
/-! ### repr -/
def repD (d : D) : Option D := if (dat 60 d && d.py.showable && decide (d.py.shown.length ≤ line)) = true then some (.str d.py.shown) else none
theorem sf_repr (hs : Sysm C.X.K) (hu : C.X.A.units + 64 < cLine) (hgu : C.X.A.guards = some []) : SFn C .froz (.builtin "repr") (g1 fun d => lift (repD d)) := sfn1 fun pins s σ W st d v u Q I k b ru o => by
  obtain ⟨dd, hd, o2⟩ := out_lift o
  unfold repD at hd
  by_cases z : (dat 60 d && d.py.showable && decide (d.py.shown.length ≤ line)) = true
  · rw [if_pos z] at hd
    cases hd
    obtain ⟨z, z3⟩ := and2 z
    obtain ⟨z1, z2⟩ := and2 z
    have hln : d.py.shown.length ≤ sizeLine := by rw [← line_eq]; exact of_decide_eq_true z3
    obtain ⟨l, r, hl⟩ := b.reads I hs k ru z1
    have hdp := depth_of_dat 60 d z1
    have ref : ∀ a, u = .ref a → wpAny (model C.X.prog C.X.w) C.X.A (call (.builtin "repr") [u]) (EP C.X pins σ Q) C.X.xe s := fun a e => by
      subst e
      exact repr_of_reads' r z2 (fun _ => hl) hgu (by omega) (fun _ _ h => h) (fun h' t tk hk => EP.str (κ := .froz) (I.kept (t' := tk) hk) k o2) hln
    cases d with
    | non =>
      have e := b.non
      subst e; cases ru
      refine PySem.P.repr_of_none (EP.str (κ := .froz) (I.tok _) k ?_)
      simpa [D.py, PyData.shown] using o2
    | bl i =>
      have e := b.bl
      subst e; cases ru
      refine PySem.P.repr_of_bool (EP.str (κ := .froz) (I.tok _) k ?_)
      simpa [D.py, PyData.shown] using o2
    | int i =>
      have e := b.int
      subst e
      obtain ⟨t, rfl⟩ := ru
      refine PySem.P.repr_of_int (by simpa [D.py, PyData.showable] using z2) (EP.str (κ := .froz) (I.tok _) k ?_)
      simpa [D.py, PyData.shown] using o2
    | str i =>
      have e := b.str
      subst e
      obtain ⟨t, rfl⟩ := ru
      refine PySem.P.repr_of_str (EP.str (κ := .froz) (I.tok _) k ?_) (by simpa [D.py, PyData.shown] using hln)
      simpa [D.py, PyData.shown] using o2
    | tup xs =>
      obtain ⟨a, vs, ev, _⟩ := b.tup k
      subst ev
      exact ref a ru
    | lst xs =>
      obtain ⟨a, vs, ev, _⟩ := b.lst k
      subst ev
      exact ref a ru
    | dct kvs =>
      have : ∃ a, v = .ref a := by
        rcases b with h | ⟨a, ev, _⟩
        · simp only [Rp] at h
          obtain ⟨a, ev, _⟩ := h
          exact ⟨a, ev⟩
        · exact ⟨a, ev⟩
      obtain ⟨a, ev⟩ := this
      subst ev
      exact ref a ru
    | obj i => simp [dat] at z1
    | glo i => simp [dat] at z1
    | scr i => simp [dat] at z1
  · rw [if_neg z] at hd; cases hd
/-! ### isinstance -/
@[simp] def isaD (p : PyData → Bool) (d : D) : M D := if dat 60 d = true then ret (.bl (p d.py)) else halt
@[simp] def eIsa (p : PyData → Bool) (m : Ex) : Ex := fun env => bnd (m env) (isaD p)
/-- a class that isinstance is asked about -/
def IsaT (T : String) (p : PyData → Bool) : Prop := ∀ {prog : Program} {w : World} {A : Around} {E : Value → Shared → Prop} {s : Shared} {v : Value} {d : PyData} {as : List Addr} {Q : Value → Shared → Prop}, Reads s.heap v d as →
  (∀ tk, s.toks ≤ tk → Q (.bool (p d)) { s with toks := tk }) → wpAny (model prog w) A (call (.builtin "isinstance") [v, .type T]) Q E s
theorem isa_int : IsaT "int" PyData.isInt := fun r h => PySem.W.isinstance_int_data r h
theorem isa_bool : IsaT "bool" PyData.isBool := fun r h => PySem.W.isinstance_bool_data r h
theorem isa_str : IsaT "str" PyData.isStr := fun r h => PySem.W.isinstance_str_data r h
theorem isa_tuple : IsaT "tuple" PyData.isTuple := fun r h => PySem.W.isinstance_tuple_data r h
theorem isa_list : IsaT "list" PyData.isList := fun r h => PySem.W.isinstance_list_data r h
theorem isa_dict : IsaT "dict" PyData.isDict := fun r h => PySem.W.isinstance_dict_data r h
theorem se_isa {κ : Kd} {T : String} {p : PyData → Bool} {e : Expr} {me : Ex} {x : Str} {p1 p2 pos : Pos} (ht : IsaT T p) (hs : Sysm C.X.K) (hg : Gl C.X "isinstance") (hm : C.X.mg "isinstance" = none) (hgT : Gl C.X x) (hmT : C.X.mg x = none) (hv : bootBuiltins x = some (.type T)) (he : SE C κ e me)
    (hn : x ≠ "__name__" := by decide) (hdb : (x == ("__debug__" : Str)) = false := by decide)
    (h1 : starEach (e :: [.Name x p2]) C.X.env = (false, eval e C.X.env) :: starEach [.Name x p2] C.X.env := by rfl) (h2 : starEach [Expr.Name x p2] C.X.env = [(false, eval (.Name x p2) C.X.env)] := by rfl) (hpl : (backTo pos (starEach [Expr.Name x p2] C.X.env)).any (·.1) = false := by rfl) :
    SE C .froz (.Call (.Name "isinstance" p1) [e, .Name x p2] [] pos) (eIsa p me) :=
  SE.mk fun pins s σ env W st Q I R o => by
    refine wpAny_Call_Name_kw (ld_blt I hg hm PyProof.Rows.boot_isinstance (PyProof.Rows.callWith_builtin1 ?_ h1 hpl))
    rw [h1]
    show wpAny _ _ (spliced ((false, eval e C.X.env) :: backTo pos (starEach [Expr.Name x p2] C.X.env))) _ _ s
    refine Calls.spliced_cons (he.go I R ((Out.bnd o).imp fun d st1 o1 v u s1 W1 e1 k1 r1 I1 ru => ?_))
    have ha : PA C.X [.Name x p2] (tCons (tC (.ty T)) tNil) := pa_cons (pe_bltn hgT hmT hv rfl hn hdb) pa_nil h2
    refine thn (ha.run pos pins s1 σ W1.H (fun vs H => vs = [.ty T] ∧ H = W1.H) I1 ⟨rfl, rfl⟩) fun us s2 ⟨vs, H2, I2, r2, ev, eH⟩ => ?_
    subst ev eH
    obtain ⟨u2, rfl, ru2⟩ := vals1 r2
    cases ru2
    unfold isaD at o1
    by_cases z : dat 60 d = true
    · rw [if_pos z] at o1
      obtain ⟨l, r, _⟩ := r1.bor.reads I2 hs k1 ru z
      exact ht r fun tk _ => EP.bl (κ := .froz) (I2.tok tk) k1 fun z W' e' k' r' => (show KEnd C .froz W Q (.bl (p d.py)) st1 from o1) z W' (e1.trans e') k' r'
    · rw [if_neg z] at o1; exact (show False from o1).elim
end
end Sm


set_option Elab.async false
set_option linter.all false
set_option maxRecDepth 100000
set_option maxHeartbeats 1000000
/-! Sm11: methods; changes of one's own lists and of the store's cells; is. -/
namespace Sm
open PySem PySem.Spec L2
def tyN : D → Option String
  | .lst _ => some "list"
  | .scr _ => some "list"
  | .tup _ => some "tuple"
  | .str _ => some "str"
  | _ => none
def eMt (km : D → Option (String × String)) (g : D → List D → M D) (mo : Ex) (ml : Lx) : Ex := fun env => bnd (mo env) fun d => if (km d).isSome = true then bnd (ml env) (g d) else halt
section
variable {C : Cn}
theorem ty_of {pins : List (Addr × Obj)} {s : Shared} {σ : L2.St} {W : Wd} {st : Store} {d : D} {v : V} {u : Value} {T : String} (I : Inv C.X pins σ W.H s) (k : C.ok W st) (b : Bor C.X.K C.X.mg W d v) (r : RelV v u) (h : tyN d = some T) :
    s.TypeIs u T ∧ ∀ a, u = .ref a → ∃ ob, s.heap.get? a = some ob ∧ ob.dict = none := by
  have lst : ∀ {a : Addr} {vs : List V}, SqL C.X.K W.H a vs → u = .ref a → s.TypeIs u "list" ∧ ∀ a, u = .ref a → ∃ ob, s.heap.get? a = some ob ∧ ob.dict = none := fun {a vs} hq e => by
    subst e
    obtain ⟨its, _, pl, _⟩ := I.list hq
    refine ⟨pl.isList.typeIs, fun a' e => ?_⟩
    cases e
    obtain ⟨o, n, e, c, hd, _⟩ := pl
    exact ⟨o, e, hd⟩
  cases d with
  | lst xs =>
    cases h
    obtain ⟨a, vs, ev, hp, l⟩ := b.lst k
    subst ev
    exact lst (.inl (.inl hp)) r
  | scr xs =>
    cases h
    obtain ⟨a, vs, ev, hp, l⟩ := b.scr k
    subst ev
    exact lst hp r
  | tup xs =>
    cases h
    have f := b.froz_tup
    have f' : Rp _ _ _ _ (.tup xs) v := f
    simp only [Rp] at f'
    obtain ⟨a, vs, ev, sq, dl, l⟩ := f'
    subst ev
    cases r
    obtain ⟨its, _, p, _⟩ := I.tuple (SqT.up k.sub sq)
    refine ⟨(show s.heap.IsTuple a its.toArray from p).typeIs, fun a' e => ?_⟩
    cases e
    rcases dl with ⟨o, w, e, hd⟩ | ⟨o, e, hd⟩
    · obtain ⟨e2, _⟩ := I.hok a _ (k.sub _ _ e)
      exact ⟨o, e2, hd⟩
    · exact ⟨o, I.kIn a o e, hd⟩
  | str z =>
    cases h
    have ev := b.str
    subst ev
    obtain ⟨t, rfl⟩ := r
    exact ⟨typeIs_str s z t, fun _ e => nomatch e⟩
  | _ => cases h
/-- o.name(e, ..) -/
theorem se_mt {κ κr : Kd} {name : Str} {km : D → Option (String × String)} {g : D → List D → M D} {o e : Expr} {es : List Expr} {mo : Ex} {ml : Lx} {apos cpos : Pos}
    (hk : ∀ d T id, km d = some (T, id) → PlainAttrs T ∧ Slot T name id ∧ typeOf (.builtin id) = pure (.type "method_descriptor") ∧ tyN d = some T)
    (hf : ∀ (pins : List (Addr × Obj)) (s : Shared) (σ : L2.St) (W : Wd) (st : Store) (d : D) (v : V) (u : Value) (ds : List D) (vs : List V) (us : List Value) (Q : VK) (T id : String), km d = some (T, id) → Inv C.X pins σ W.H s → C.ok W st → Bor C.X.K C.X.mg W d v → RelV v u →
      BorL C.X.K C.X.mg W ds vs → Vals vs us → Out C σ W (g d ds st) (KEnd C κ W Q) → wpAny (model C.X.prog C.X.w) C.X.A (call (.builtin id) (u :: us)) (EP C.X pins σ Q) C.X.xe s)
    (ho : SE C κr o mo) (ha : SB C (e :: es) ml) (hbase : attributeBase o name C.X.env (eval o C.X.env) = eval o C.X.env := by rfl)
    (hfew : ((backTo cpos (starEach (e :: es) C.X.env)).all (fun x => !x.1) && (backToKw cpos (keywordEach [] C.X.env)).all (fun x => x.1.isSome)
      && decide ((e :: es).length + ([] : List Keyword).length + (if ([] : List Keyword).isEmpty then 0 else 1) < 30)) = true := by rfl)
    (hline : (apos.endLine == cpos.line) = true := by rfl) (hs : starEach (e :: es) C.X.env = (false, eval e C.X.env) :: starEach es C.X.env := by rfl) (hplain : (backTo cpos (starEach es C.X.env)).any (·.1) = false := by rfl) :
    SE C κ (.Call (.Attribute o name apos) (e :: es) [] cpos) (eMt km g mo ml) :=
  SE.mk fun pins s σ env W st Q I R oo => by
    refine wpAny_Call_method_late hbase hfew hline rfl (ho.go I R ((Out.bnd oo).imp fun d st1 o1 v u s1 W1 e1 k1 r1 I1 ru => ?_))
    cases hq : km d with
    | none =>
      rw [hq] at o1
      exact (show False from o1).elim
    | some Ti =>
      obtain ⟨T, id⟩ := Ti
      rw [hq] at o1
      have o1 : Out C σ W (bnd (ml env) (g d) st1) (KEnd C κ W Q) := o1
      obtain ⟨pa, slot, hty, htn⟩ := hk d T id hq
      obtain ⟨h1, h2⟩ := ty_of I1 k1 r1.bor ru htn
      refine ⟨T, id, pa, slot, hty, h1, h2, ?_⟩
      have hA := ha.go (pos := cpos) (Q := fun us s2 => wpAny (model C.X.prog C.X.w) C.X.A (call (.builtin id) (u :: us)) (EP C.X pins σ Q) C.X.xe s2) I1 (R.up e1 k1) (((Out.bnd o1).up e1).imp fun ds st2 o2 vs us s2 W2 e2 k2 r2 I2 rv =>
        hf pins s2 σ W2 st2 d v u ds vs us Q T id hq I2 k2 (r1.bor.ext e2) ru r2 rv ((o2.up (e1.trans e2)).imp fun dd st3 q z W3 e3 k3 r3 => q z W3 ((e1.trans e2).trans e3) k3 (r3.down (e1.trans e2))))
      rw [hs] at hA ⊢
      refine Calls.callWith_builtin (by show (false || (backTo cpos (starEach es C.X.env)).any (·.1)) = false; rw [hplain]; rfl) (Calls.evalArgs_plain ?_)
      exact hA
/-- by one argument -/
theorem mt1 {κ : Kd} {f : Value} {g : D → D → M D} {d : D} {u : Value} {ds : List D} {vs : List V} {us : List Value} {pins : List (Addr × Obj)} {s : Shared} {σ : L2.St} {W : Wd} {st : Store} {Q : VK} (b : BorL C.X.K C.X.mg W ds vs) (r : Vals vs us)
    (o : Out C σ W (g1 (g d) ds st) (KEnd C κ W Q)) (h : ∀ d2 v2 u2, Bor C.X.K C.X.mg W d2 v2 → RelV v2 u2 → Out C σ W (g d d2 st) (KEnd C κ W Q) → wpAny (model C.X.prog C.X.w) C.X.A (call f [u, u2]) (EP C.X pins σ Q) C.X.xe s) :
    wpAny (model C.X.prog C.X.w) C.X.A (call f (u :: us)) (EP C.X pins σ Q) C.X.xe s := by
  match ds, b, o with
  | [], _, o => exact (show False from o).elim
  | [d2], b, o =>
    obtain ⟨v2, vr, ev, b1, b2⟩ := b
    obtain rfl : vr = [] := b2
    subst ev
    obtain ⟨u2, rfl, ru⟩ := vals1 r
    exact h d2 v2 u2 b1 ru o
  | _ :: _ :: _, _, o => exact (show False from o).elim
/-! ### count -/
def kCount : D → Option (String × String)
  | .lst _ => some ("list", "list.count")
  | .tup _ => some ("tuple", "tuple.count")
  | _ => none
def countD (d x : D) : Option D := (lotD d).bind fun p => if (shpL 60 p.2 && shp 60 x) = true then some (.int (p.2.countP fun y => D.eqv y x : Nat)) else none
theorem count_py (x : D) : ∀ ds : List D, ((pyL ds).countP fun y => PyData.eqv y x.py) = ds.countP fun y => D.eqv y x
  | [] => rfl
  | y :: ds => by simp only [pyL, List.countP_cons, count_py x ds, D.eqv]
theorem se_count {κr : Kd} {o e : Expr} {mo : Ex} {ml : Lx} {apos cpos : Pos} (hs : Sysm C.X.K) (hu : C.X.A.units + 64 < cLine)
    (ho : SE C κr o mo) (ha : SB C [e] ml) (hbase : attributeBase o "count" C.X.env (eval o C.X.env) = eval o C.X.env := by rfl)
    (hfew : ((backTo cpos (starEach [e] C.X.env)).all (fun x => !x.1) && (backToKw cpos (keywordEach [] C.X.env)).all (fun x => x.1.isSome)
      && decide ([e].length + ([] : List Keyword).length + (if ([] : List Keyword).isEmpty then 0 else 1) < 30)) = true := by rfl)
    (hline : (apos.endLine == cpos.line) = true := by rfl) (hss : starEach [e] C.X.env = (false, eval e C.X.env) :: starEach [] C.X.env := by rfl) (hplain : (backTo cpos (starEach [] C.X.env)).any (·.1) = false := by rfl) :
    SE C .froz (.Call (.Attribute o "count" apos) [e] [] cpos) (eMt kCount (fun d => g1 fun x => lift (countD d x)) mo ml) := by
  refine se_mt (fun d T id h => ?_) (fun pins s σ W st d v u ds vs us Q T id hk I k b ru bl rv oo => ?_) ho ha hbase hfew hline hss hplain
  · cases d with
    | lst xs => cases h; exact ⟨F.plainAttrs_list, F.slot_list_count, F.type_list_count, rfl⟩
    | tup xs => cases h; exact ⟨F.plainAttrs_tuple, F.slot_tuple_count, F.type_tuple_count, rfl⟩
    | _ => cases h
  · refine mt1 (g := fun d x => lift (countD d x)) (d := d) bl rv oo fun d2 v2 u2 b2 ru2 o2 => ?_
    obtain ⟨dd, hd, o3⟩ := out_lift o2
    unfold countD at hd
    cases q : lotD d with
    | none => rw [q] at hd; cases hd
    | some p =>
      obtain ⟨lst, xs⟩ := p
      rw [q] at hd
      have hd : (if (shpL 60 xs && shp 60 d2) = true then some (D.int (xs.countP fun y => D.eqv y d2 : Nat)) else none) = some dd := hd
      by_cases z : (shpL 60 xs && shp 60 d2) = true
      · rw [if_pos z] at hd
        cases hd
        obtain ⟨z1, z2⟩ := and2 z
        obtain ⟨a, vs, its, l', eu, hl, rvs, rr, l, hz⟩ := (lot_reads (n := 60) I hs k b ru q (datL_of_shp _ _ z1)).ex
        obtain ⟨l2, r2, _⟩ := b2.reads I hs k ru2 (dat_of_shp _ _ z2)
        subst eu
        have hdp := dep60 z2
        cases d with
        | lst ys =>
          cases q
          cases hk
          rw [if_pos rfl] at hl
          exact SeqAt.count_list_data hl rr r2 (plainAll_of_shp _ _ z1) (plain_of_shp _ _ z2) (by omega) (by rw [count_py]; exact EP.int (κ := .froz) (I.tok _) k o3)
        | tup ys =>
          cases q
          cases hk
          rw [if_neg Bool.false_ne_true] at hl
          exact SeqAt.count_tuple_data hl rr r2 (plainAll_of_shp _ _ z1) (plain_of_shp _ _ z2) (by omega) (by rw [count_py]; exact EP.int (κ := .froz) (I.tok _) k o3)
        | _ => cases hk
      · rw [if_neg z] at hd; cases hd
/-! ### is -/
def isD' (a b : D) : Option Bool := match a, b with
  | .bl i, .bl j => some (decide (i = j))
  | .non, .bl _ => some false
  | .bl _, .non => some false
  | .non, .non => some true
  | .int _, .non => some false
  | .str _, .non => some false
  | .tup _, .non => some false
  | .lst _, .non => some false
  | _, _ => none
def isOp (a b : D) : Option D := (isD' a b).map D.bl
def isntOp (a b : D) : Option D := (isD' a b).map fun k => D.bl (!k)
theorem bor_ref {W : Wd} {st : Store} {d : D} {v : V} (k : C.ok W st) (b : Bor C.X.K C.X.mg W d v) (h : (match d with | .tup _ => true | .lst _ => true | _ => false) = true) : ∃ a, v = .ref a := by
  cases d with
  | tup xs => obtain ⟨a, _, e, _⟩ := b.tup k; exact ⟨a, e⟩
  | lst xs => obtain ⟨a, _, e, _⟩ := b.lst k; exact ⟨a, e⟩
  | _ => cases h
theorem is_non {W : Wd} {st : Store} {a : D} {x : V} {t : Bool} (k : C.ok W st) (b : Bor C.X.K C.X.mg W a x) (h : isD' a .non = some t) : decide (x = .non) = t := by
  cases a with
  | non => have e := b.non; subst e; cases h; rfl
  | bl i => have e := b.bl; subst e; cases h; rfl
  | int i => have e := b.int; subst e; cases h; rfl
  | str i => have e := b.str; subst e; cases h; rfl
  | tup xs => obtain ⟨p, e⟩ := bor_ref k b rfl; subst e; cases h; rfl
  | lst xs => obtain ⟨p, e⟩ := bor_ref k b rfl; subst e; cases h; rfl
  | _ => cases h
theorem sop_is : SOp C .froz (compareOp .Is) (pur isOp) := by
  intro pins s σ W st d1 d2 x y u v Q I k b1 b2 ru rv o
  obtain ⟨dd, hd, o2⟩ := out_lift o
  unfold isOp at hd
  cases q : isD' d1 d2 with
  | none => rw [q] at hd; cases hd
  | some t =>
    rw [q] at hd
    cases hd
    cases d2 with
    | non =>
      have e := b2.non
      subst e
      refine op_isN pins s σ W.H _ _ u v Q I ru rv ⟨rfl, ?_⟩
      rw [is_non k b1 q]
      exact o2 _ W (.refl W) k rk_bl
    | bl j =>
      have e := b2.bl
      subst e
      cases d1 with
      | bl i =>
        have e1 := b1.bl
        subst e1
        cases q
        exact op_isBl pins s σ W.H _ _ u v Q I ru rv ⟨i, j, rfl, rfl, o2 _ W (.refl W) k rk_bl⟩
      | non =>
        have e1 := b1.non
        subst e1
        cases q
        cases ru
        cases rv
        exact wpAny_is_other rfl (fun z => nomatch z) ⟨.bl false, W.H, I, rfl, o2 _ W (.refl W) k rk_bl⟩
      | _ => cases q
    | _ => cases d1 <;> cases q
theorem sop_isnt : SOp C .froz (compareOp .IsNot) (pur isntOp) := by
  intro pins s σ W st d1 d2 x y u v Q I k b1 b2 ru rv o
  obtain ⟨dd, hd, o2⟩ := out_lift o
  unfold isntOp at hd
  cases q : isD' d1 d2 with
  | none => rw [q] at hd; cases hd
  | some t =>
    rw [q] at hd
    cases hd
    cases d2 with
    | non =>
      have e := b2.non
      subst e
      refine op_notN pins s σ W.H _ _ u v Q I ru rv ⟨rfl, ?_⟩
      rw [is_non k b1 q]
      exact o2 _ W (.refl W) k rk_bl
    | bl j =>
      have e := b2.bl
      subst e
      cases d1 with
      | bl i =>
        have e1 := b1.bl
        subst e1
        cases q
        exact op_notBl pins s σ W.H _ _ u v Q I ru rv ⟨i, j, rfl, rfl, o2 _ W (.refl W) k rk_bl⟩
      | non =>
        have e1 := b1.non
        subst e1
        cases q
        cases ru
        cases rv
        exact wpAny_isNot_other rfl (fun z => nomatch z) ⟨.bl true, W.H, I, rfl, o2 _ W (.refl W) k rk_bl⟩
      | _ => cases q
    | _ => cases d1 <;> cases q
end
end Sm


set_option Elab.async false
set_option linter.all false
set_option maxRecDepth 100000
set_option maxHeartbeats 1000000
/-! Sm12: one's own lists changed, the store's cells changed, new cells; chains; while. -/
namespace Sm
open PySem PySem.Spec L2
section
variable {C : Cn} {env : En} {W W' : Wd} {st st' : Store} {σ : L2.St} {i : Nat}
theorem SR.updOwn {d : D} {a : Addr} {ds : List D} {vs : List V} (R : SR C env W st σ) (he : env i = some (true, d)) (ha : σ[i]? = some (some (.ref a))) (r : RpL C.X.K C.X.mg W.as W.G ds vs) : SR C (env.put i true (.lst ds)) (W.new a (.lst vs)) st σ := by
  obtain ⟨v, h1, h2⟩ := R.slot i true d he
  rw [if_pos rfl] at h2
  obtain ⟨a', ev, n0, ng, na, t⟩ := h2
  rw [ha] at h1
  cases h1
  cases ev
  refine ⟨set_ext R.ext n0, R.len, set_ok R.ok ng na, fun j b x h => ?_, fun j m x y c hjk hj hk g1 g2 => ?_⟩
  · by_cases q : j = i
    · subst q
      rw [put_same] at h
      obtain ⟨rfl, rfl⟩ := Prod.mk.inj (Option.some.inj h)
      exact ⟨.ref a, ha, by rw [if_pos rfl]; exact ⟨a, rfl, n0, ng, na, vs, upd_same, r⟩⟩
    · rw [put_ne q] at h
      obtain ⟨w, h3, h4⟩ := R.slot j b x h
      refine ⟨w, h3, ?_⟩
      cases b with
      | false => rw [if_neg Bool.false_ne_true] at h4 ⊢; exact h4
      | true =>
        rw [if_pos rfl] at h4 ⊢
        obtain ⟨c, ec, m0, mg, ma, tc⟩ := h4
        subst ec
        have hne : c ≠ a := fun e => R.dis j i x d a q h he (by rw [h3, e]) ha
        refine ⟨c, rfl, m0, mg, ma, ?_⟩
        have keep : ∀ {o : HO}, W.H c = some o → (W.new a (.lst vs)).H c = some o := fun {o} e => by
          show upd W.H a (.lst vs) c = some o
          rw [upd_ne hne]; exact e
        cases x with
        | lst xs => obtain ⟨ws, e1, e2⟩ := tc; exact ⟨ws, keep e1, e2⟩
        | dct xs =>
          rcases tc with ⟨ws, e1, e2⟩ | ⟨ws, e1, e2⟩
          · exact .inl ⟨ws, keep e1, e2⟩
          · exact .inr ⟨ws, keep e1, e2⟩
        | _ => exact False.elim tc
  · have n : ∀ {j x}, env.put i true (.lst ds) j = some (true, x) → ∃ x', env j = some (true, x') := fun {j x} h => by
      by_cases q : j = i
      · subst q; exact ⟨d, he⟩
      · rw [put_ne q] at h; exact ⟨x, h⟩
    obtain ⟨x', hj⟩ := n hj
    obtain ⟨y', hk⟩ := n hk
    exact R.dis j m x' y' c hjk hj hk g1 g2
/-- a cell of the store changed -/
theorem cell_ok {K : PySem.W.Frag} {mg : Str → Option Value} {n : Nat} {a : Addr} {ds : List D} {vs : List V} (k : W.Ok K mg st) (ha : W.as[n]? = some a) (r : RpL K mg W.as W.G ds vs) : (W.new a (.lst vs)).Ok K mg (st.set n ds) := by
  have hn : n < st.length := by
    rw [← k.len]
    by_cases q : n < W.as.length
    · exact q
    · rw [List.getElem?_eq_none (by omega)] at ha; cases ha
  have ng : W.G a = none := k.dis a (List.mem_of_getElem? ha)
  refine ⟨fun b u h => ?_, k.nod, k.dis, by rw [List.length_set]; exact k.len, fun j xs h => ?_⟩
  · have h' : W.G b = some u := h
    show upd W.H a _ b = some u
    rw [upd_ne (show b ≠ a from fun z => by rw [z, ng] at h'; cases h')]
    exact k.sub b u h'
  · by_cases q : n = j
    · subst q
      rw [List.getElem?_set_self hn] at h
      cases h
      exact ⟨a, vs, ha, upd_same, r⟩
    · rw [List.getElem?_set_ne q] at h
      obtain ⟨b, ws, h1, h2, h3⟩ := k.cel j xs h
      refine ⟨b, ws, h1, ?_, h3⟩
      show upd W.H a _ b = some _
      rw [upd_ne (show b ≠ a from fun z => ?_)]
      · exact h2
      · subst z
        have h1' := List.getElem?_eq_some_iff.mp h1
        have ha' := List.getElem?_eq_some_iff.mp ha
        obtain ⟨l1, e1⟩ := h1'
        obtain ⟨l2, e2⟩ := ha'
        have pw := List.pairwise_iff_getElem.mp k.nod
        rcases Nat.lt_or_gt_of_ne q with z | z
        · exact pw n j l2 l1 z (e2.trans e1.symm)
        · exact pw j n l1 l2 z (e1.trans e2.symm)
theorem cell_ext {n : Nat} {a : Addr} {o : HO} (ha : W.as[n]? = some a) (h : W.H a ≠ none) : Ext W (W.new a o) := by
  refine ⟨fun _ _ h => h, fun _ h q => absurd h q, ⟨[], by show W.as = W.as ++ []; simp⟩, fun _ h => .inl h, fun b u h n => ?_, fun b h' => ?_⟩
  · show upd W.H a o b = some u
    rw [upd_ne (show b ≠ a from fun z => n (z ▸ List.mem_of_getElem? ha))]; exact h
  · have h' : upd W.H a o b = none := h'
    by_cases q : b = a
    · subst q; rw [upd_same] at h'; cases h'
    · rw [upd_ne q] at h'; exact h'
/-- the own list at i becomes a new cell -/
theorem SR.pin {ds : List D} (R : SR C env W st σ) (he : env i = some (true, .lst ds)) : ∃ W', W'.H = W.H ∧ Lat W W' ∧ SR C (env.put i false (.obj st.length)) W' (st ++ [ds]) σ := by
  obtain ⟨v, h1, h2⟩ := R.slot i true _ he
  rw [if_pos rfl] at h2
  obtain ⟨a, ev, n0, ng, na, vs, hH, l⟩ := h2
  subst ev
  have pre : ∀ (j : Nat) b, W.as[j]? = some b → (W.as ++ [a])[j]? = some b := pre_of rfl
  have up : ∀ {d v}, C.rp W d v → C.rp { W with as := W.as ++ [a] } d v := fun {d v} h => Rp.up pre (fun _ _ h => h) d v h
  have last : (W.as ++ [a])[st.length]? = some a := by rw [← R.ok.len]; simp
  refine ⟨{ W with as := W.as ++ [a] }, rfl, ⟨fun _ _ h => h, ⟨[a], rfl⟩⟩, ?_, R.len, ?_, fun j b x h => ?_, fun j m x y c hjk hj hk g1 g2 => ?_⟩
  · refine ⟨R.ext.g, R.ext.gn, ?_, fun b hb => ?_, R.ext.h, R.ext.hn⟩
    · obtain ⟨l', q⟩ := R.ext.as
      exact ⟨l' ++ [a], by show W.as ++ [a] = _; rw [q, List.append_assoc]⟩
    · rcases List.mem_append.mp hb with z | z
      · exact R.ext.asn b z
      · rw [List.mem_singleton.mp z]; exact .inr n0
  · refine ⟨R.ok.sub, ?_, fun b hb => ?_, by simp [R.ok.len], fun j xs h => ?_⟩
    · refine List.nodup_append.mpr ⟨R.ok.nod, by simp, fun b hb c hc => ?_⟩
      rw [List.mem_singleton.mp hc]
      exact fun z => na (z ▸ hb)
    · rcases List.mem_append.mp hb with z | z
      · exact R.ok.dis b z
      · rw [List.mem_singleton.mp z]; exact ng
    · by_cases q : j < st.length
      · rw [List.getElem?_append_left q] at h
        obtain ⟨b, ws, h3, h4, h5⟩ := R.ok.cel j xs h
        exact ⟨b, ws, pre j b h3, h4, RpL.up pre (fun _ _ h => h) xs ws h5⟩
      · have e : j = st.length := by
          by_cases z : j < (st ++ [ds]).length
          · simp at z; omega
          · rw [List.getElem?_eq_none (by omega)] at h; cases h
        subst e
        simp at h
        subst h
        exact ⟨a, vs, last, hH, RpL.up pre (fun _ _ h => h) _ vs l⟩
  · by_cases q : j = i
    · subst q
      rw [put_same] at h
      obtain ⟨rfl, rfl⟩ := Prod.mk.inj (Option.some.inj h)
      refine ⟨.ref a, h1, ?_⟩
      rw [if_neg Bool.false_ne_true]
      show Rp _ _ _ _ (.obj st.length) _
      simp only [Rp]
      exact ⟨a, rfl, last⟩
    · rw [put_ne q] at h
      obtain ⟨w, h3, h4⟩ := R.slot j b x h
      refine ⟨w, h3, ?_⟩
      cases b with
      | false => rw [if_neg Bool.false_ne_true] at h4 ⊢; exact up h4
      | true =>
        rw [if_pos rfl] at h4 ⊢
        obtain ⟨c, ec, m0, mg, ma, tc⟩ := h4
        subst ec
        have hne : c ≠ a := fun e => R.dis j i x _ a q h he (by rw [h3, e]) h1
        refine ⟨c, rfl, m0, mg, fun z => ?_, ?_⟩
        · rcases List.mem_append.mp z with z | z
          · exact ma z
          · exact hne (List.mem_singleton.mp z)
        · cases x with
          | lst xs => obtain ⟨ws, e1, e2⟩ := tc; exact ⟨ws, e1, RpL.up pre (fun _ _ h => h) xs ws e2⟩
          | dct xs =>
            rcases tc with ⟨ws, e1, e2⟩ | ⟨ws, e1, e2⟩
            · exact .inl ⟨ws, e1, RpK.up pre (fun _ _ h => h) xs ws e2⟩
            · exact .inr ⟨ws, e1, RpT.up pre (fun _ _ h => h) xs ws e2⟩
          | _ => exact False.elim tc
  · have n : ∀ {j x}, env.put i false (.obj st.length) j = some (true, x) → env j = some (true, x) := fun {j x} h => by
      by_cases q : j = i
      · subst q; rw [put_same] at h; cases h
      · rw [put_ne q] at h; exact h
    exact R.dis j m x y c hjk (n hj) (n hk) g1 g2
end
/-- from here on the own list at i is a cell of the store -/
def sPin (i : Nat) (m : Sx) : Sx := fun env st => match env i with
  | some (true, .lst ds) => m (env.put i false (.obj st.length)) (st ++ [ds])
  | _ => .stuck
def ownL : Option (Bool × D) → Option (List D)
  | some (true, .lst xs) => some xs
  | _ => none
def withOwn {α : Type} (o : Option (List D)) (f : List D → M α) : M α := match o with
  | some xs => f xs
  | none => halt
def sApp (i : Nat) (m : Ex) : Sx := fun env => withOwn (ownL (env i)) fun xs => bnd (m env) fun d => if xs.length < line then ret (.nx (env.put i true (.lst (xs ++ [d])))) else halt
def extL (i : Nat) (xs : List D) (d : D) : Sx := fun env => match d with
  | .lst ys => if xs.length + ys.length ≤ line then ret (.nx (env.put i true (.lst (xs ++ ys)))) else halt
  | _ => halt
def sExt (i : Nat) (m : Ex) : Sx := fun env => withOwn (ownL (env i)) fun xs => bnd (m env) fun d => extL i xs d env
@[simp] def setAt (i : Nat) (d k : D) : Sx := fun env => match env i, k with
  | some (true, .lst xs), .int k => (match ixN xs.length k with
    | some j => ret (.nx (env.put i true (.lst (xs.set j d))))
    | none => halt)
  | some (false, .obj n), .int k => fun st => (match st[n]? with
    | some xs => (match ixN xs.length k with
      | some j => .ok (.nx env) (st.set n (xs.set j d))
      | none => .stuck)
    | none => .stuck)
  | _, _ => halt
@[simp] def sSetAt (i : Nat) (ix m : Ex) : Sx := fun env => match env i with
  | none => halt
  | some _ => bnd (m env) fun d => bnd (ix env) fun k => setAt i d k env
section
variable {C : Cn} {κ κe : Kd} {s : Stmt} {ss : List Stmt} {m : Sx} {e : Expr} {me : Ex} {pos apos cpos px : Pos} {i : Nat} {x : Str} {De : Ends} {σ : L2.St} {H : Hp}
theorem pin_go (h : TSo C κ (sPin i m) De σ H) : TSo C κ m De σ H := by
  obtain ⟨env, W, st, e, R, o⟩ := h
  have o : OutS C (match env i with | some (true, .lst ds) => m (env.put i false (.obj st.length)) (st ++ [ds]) | _ => .stuck) (kFl C κ De W) := o
  split at o
  · rename_i ds he
    obtain ⟨W', h1, l, R'⟩ := R.pin he
    exact ⟨_, W', _, h1.trans e, R', o.imp fun g st2 h => h.lat l⟩
  · exact False.elim o
theorem ss_pins (h : SSs C κ ss m) : SSs C κ ss (sPin i m) := PSs.imp h fun D σ H => pin_go
theorem RpL.one {K : PySem.W.Frag} {mg : Str → Option Value} {as : List Addr} {G : Hp} {d : D} {v : V} (h : Rp K mg as G d v) : RpL K mg as G [d] [v] := by
  simp only [RpL]; exact ⟨v, [], rfl, h, rfl⟩
theorem RpL.set {K : PySem.W.Frag} {mg : Str → Option Value} {as : List Addr} {G : Hp} {d : D} {v : V} (h : Rp K mg as G d v) : ∀ {ds : List D} {vs : List V} (j : Nat), RpL K mg as G ds vs → RpL K mg as G (ds.set j d) (vs.set j v)
  | [], vs, j, r => by
    simp only [RpL] at r
    subst r
    simp [RpL]
  | x :: ds, vs, 0, r => by
    simp only [RpL] at r
    obtain ⟨w, r', e, _, h2⟩ := r
    subst e
    simp only [List.set_cons_zero, RpL]
    exact ⟨v, r', rfl, h, h2⟩
  | x :: ds, vs, j + 1, r => by
    simp only [RpL] at r
    obtain ⟨w, r', e, h1, h2⟩ := r
    subst e
    simp only [List.set_cons_succ, RpL]
    exact ⟨w, _, rfl, h1, RpL.set h j h2⟩
theorem own_at {env : En} {W W1 : Wd} {st st1 : Store} {xs : List D} (R : SR C env W st σ) (he : env i = some (true, .lst xs)) : ∃ a vs, σ[i]? = some (some (.ref a)) ∧ W.H a = some (.lst vs) ∧ RpL C.X.K C.X.mg W.as W.G xs vs := by
  obtain ⟨v, h1, h2⟩ := R.slot i true _ he
  rw [if_pos rfl] at h2
  obtain ⟨a, ev, _, _, _, vs, hH, l⟩ := h2
  exact ⟨a, vs, by rw [h1, ev], hH, l⟩
theorem ownL_is {o : Option (Bool × D)} {xs : List D} (h : ownL o = some xs) : o = some (true, .lst xs) := by
  cases o with
  | none => cases h
  | some p =>
    obtain ⟨b, d⟩ := p
    cases b with
    | false => cases h
    | true =>
      cases d with
      | lst ys => cases h; rfl
      | _ => cases h
theorem own_case {α : Type} {o : Option (Bool × D)} {st : Store} {f : List D → M α} {k : α → Store → Prop} (h : OutS C (withOwn (ownL o) f st) k) : ∃ xs, o = some (true, .lst xs) ∧ OutS C (f xs st) k := by
  cases q : ownL o with
  | none => rw [q] at h; exact False.elim h
  | some xs => rw [q] at h; exact ⟨xs, ownL_is q, h⟩
theorem ss_app (n : Nm C i x) (hv : Vis C.X.env.scope x) (he : SE C .froz e me) (hd : (x == ("__debug__" : Str)) = false := by decide) (hcd : (x == ("__classdict__" : Str)) = false := by decide)
    (hbase : attributeBase (.Name x px) "append" C.X.env (eval (.Name x px) C.X.env) = eval (.Name x px) C.X.env := by rfl)
    (hfew : ((backTo cpos (starEach [e] C.X.env)).all (fun x => !x.1) && (backToKw cpos (keywordEach [] C.X.env)).all (fun x => x.1.isSome)
      && decide ([e].length + ([] : List Keyword).length + (if ([] : List Keyword).isEmpty then 0 else 1) < 30)) = true := by rfl)
    (hline : (apos.endLine == cpos.line) = true := by rfl) (hs : starEach [e] C.X.env = (false, eval e C.X.env) :: starEach [] C.X.env := by rfl) (hplain : (backTo cpos (starEach [] C.X.env)).any (·.1) = false := by rfl)
    (hsw : swapsWith (.Call (.Attribute (.Name x px) "append" apos) [e] [] cpos) none pos.line C.X.env = pure false := by rfl) :
    SS C κ (.Expr (.Call (.Attribute (.Name x px) "append" apos) [e] [] cpos) pos) (sApp i me) :=
  PS.imp (ps_expr (pe_bm (r := rAppend) F.plainAttrs_list F.slot_list_append F.type_list_append mt_append (pe_var n.at_ hv hd hcd) (pa_cons he pa_nil hs) hbase hfew hline hs hplain) hsw) fun De σ H ⟨env, W, st, e, R, o⟩ => by
    subst e
    obtain ⟨xs, hei, o⟩ := own_case o
    · obtain ⟨a, vs, ha, hH, l⟩ := own_at (st1 := st) (W1 := W) R hei
      refine ⟨.ref a, ha, .inl ⟨rfl, vs, .inl (.inl hH)⟩, ?_⟩
      refine te_of (κe := .froz) R o fun d st1 v W1 e1 k1 r1 o1 => ?_
      have R1 := R.up e1 k1
      obtain ⟨a', vs', ha', hH', l'⟩ := own_at (st1 := st) (W1 := W) R1 hei
      rw [ha] at ha'
      cases ha'
      have o1 : OutS C ((if xs.length < line then ret (Fl.nx (env.put i true (.lst (xs ++ [d])))) else halt) st1) (kFl C κ De W) := o1
      by_cases hz : xs.length < line
      · rw [if_pos hz] at o1
        refine ⟨a, vs', v, rfl, rfl, hH', by rw [← l'.len, ← line_eq]; exact hz, ?_⟩
        exact (show kFl C κ De W (.nx (env.put i true (.lst (xs ++ [d])))) st1 from o1) σ (W1.new a (.lst (vs' ++ [v]))) (R1.updOwn hei ha (l'.app (.one r1))) (e1.lat.trans set_lat)
      · rw [if_neg hz] at o1; exact False.elim o1
theorem ss_ext (n : Nm C i x) (hv : Vis C.X.env.scope x) (he : SE C κe e me) (hd : (x == ("__debug__" : Str)) = false := by decide) (hcd : (x == ("__classdict__" : Str)) = false := by decide)
    (hbase : attributeBase (.Name x px) "extend" C.X.env (eval (.Name x px) C.X.env) = eval (.Name x px) C.X.env := by rfl)
    (hfew : ((backTo cpos (starEach [e] C.X.env)).all (fun x => !x.1) && (backToKw cpos (keywordEach [] C.X.env)).all (fun x => x.1.isSome)
      && decide ([e].length + ([] : List Keyword).length + (if ([] : List Keyword).isEmpty then 0 else 1) < 30)) = true := by rfl)
    (hline : (apos.endLine == cpos.line) = true := by rfl) (hs : starEach [e] C.X.env = (false, eval e C.X.env) :: starEach [] C.X.env := by rfl) (hplain : (backTo cpos (starEach [] C.X.env)).any (·.1) = false := by rfl)
    (hsw : swapsWith (.Call (.Attribute (.Name x px) "extend" apos) [e] [] cpos) none pos.line C.X.env = pure false := by rfl) :
    SS C κ (.Expr (.Call (.Attribute (.Name x px) "extend" apos) [e] [] cpos) pos) (sExt i me) :=
  PS.imp (ps_expr (pe_bm (r := rExtend) F.plainAttrs_list F.slot_list_extend F.type_list_extend mt_extend (pe_var n.at_ hv hd hcd) (pa_cons he pa_nil hs) hbase hfew hline hs hplain) hsw) fun De σ H ⟨env, W, st, e, R, o⟩ => by
    subst e
    obtain ⟨xs, hei, o⟩ := own_case o
    · obtain ⟨a, vs, ha, hH, l⟩ := own_at (st1 := st) (W1 := W) R hei
      refine ⟨.ref a, ha, .inl ⟨rfl, vs, .inl (.inl hH)⟩, ?_⟩
      refine te_of (κe := κe) R o fun d st1 v W1 e1 k1 r1 o1 => ?_
      have R1 := R.up e1 k1
      obtain ⟨a', vs', ha', hH', l'⟩ := own_at (st1 := st) (W1 := W) R1 hei
      rw [ha] at ha'
      cases ha'
      cases d with
      | lst ys =>
        have o1 : OutS C ((if xs.length + ys.length ≤ line then ret (Fl.nx (env.put i true (.lst (xs ++ ys)))) else halt) st1) (kFl C κ De W) := o1
        obtain ⟨b, ws, ev, hb, lb⟩ := r1.bor.lst k1
        subst ev
        by_cases hz : xs.length + ys.length ≤ line
        · rw [if_pos hz] at o1
          refine ⟨a, b, vs', ws, rfl, rfl, hH', hb, by rw [← l'.len, ← lb.len, ← line_eq]; exact hz, ?_⟩
          exact (show kFl C κ De W (.nx (env.put i true (.lst (xs ++ ys)))) st1 from o1) σ (W1.new a (.lst (vs' ++ ws))) (R1.updOwn hei ha (l'.app lb)) (e1.lat.trans set_lat)
        · rw [if_neg hz] at o1; exact False.elim o1
      | _ => exact False.elim (show False from o1)
theorem ss_setAt {κi : Kd} {ix : Expr} {mi : Ex} {spos : Pos} (n : Nm C i x) (hv : Vis C.X.env.scope x) (he : SE C .froz e me) (hi : SE C κi ix mi) (hd : (x == ("__debug__" : Str)) = false := by decide) (hcd : (x == ("__classdict__" : Str)) = false := by decide)
    (ha : ∀ v, assign (.Subscript (.Name x px) ix spos) C.X.env v = (do
      let ov ← holding [v] (eval (.Name x px) C.X.env)
      let iv ← holding [v, ov] (eval ix C.X.env)
      standAt spos
      holding [v, ov, iv] (setItem ov iv v)
      release [v, ov, iv] []) := by intro _; rfl)
    (hs : swapsWithSole [.Subscript (.Name x px) ix spos] e pos.line C.X.env = pure false := by rfl) (hw : swappedStores [.Subscript (.Name x px) ix spos] e C.X.env = pure none := by rfl)
    (h1 : (assignEach [.Subscript (.Name x px) ix spos] C.X.env).map (·.2) = [assign (.Subscript (.Name x px) ix spos) C.X.env] := by rfl) :
    SS C κ (.Assign [.Subscript (.Name x px) ix spos] e pos) (sSetAt i mi me) :=
  PS.imp (ps_asg he (pg_sub (pe_var n.at_ hv hd hcd) hi set_list ha) hs hw h1) fun De σ H ⟨env, W, st, e, R, o⟩ => by
    subst e
    unfold sSetAt at o
    cases hei : env i with
    | none => rw [hei] at o; exact False.elim o
    | some p =>
      obtain ⟨b, d0⟩ := p
      rw [hei] at o
      obtain ⟨v0, hs0, _⟩ := R.slot i b d0 hei
      refine te_of (κe := .froz) R o fun d st1 v W1 e1 k1 r1 o1 => ⟨v0, hs0, ?_⟩
      have R1 := R.up e1 k1
      refine ⟨env, W1, st1, rfl, R1, ((OutS.bnd o1).out R1.ext).imp fun kd st2 o2 kv W2 e2 k2 r2 => ?_⟩
      have R2 := R1.up e2 k2
      obtain ⟨v0', hs0', q0⟩ := R2.slot i b d0 hei
      rw [hs0] at hs0'
      cases hs0'
      unfold setAt at o2
      rw [hei] at o2
      cases kd with
      | int kk =>
        have ek := r2.bor.int
        subst ek
        cases b with
        | true =>
          cases d0 with
          | lst xs =>
            rw [if_pos rfl] at q0
            obtain ⟨a, ev, _, _, _, vs, hH, l⟩ := q0
            subst ev
            have o2 : OutS C ((match ixN xs.length kk with | some j => ret (Fl.nx (env.put i true (.lst (xs.set j d)))) | none => halt) st2) (kFl C κ De W) := o2
            cases hj : ixN xs.length kk with
            | none => rw [hj] at o2; exact False.elim o2
            | some j =>
              rw [hj] at o2
              refine ⟨a, vs, kk, j, rfl, rfl, hH, by rw [← l.len]; exact hj, ?_⟩
              exact (show kFl C κ De W (.nx (env.put i true (.lst (xs.set j d)))) st2 from o2) σ (W2.new a (.lst (vs.set j v))) (R2.updOwn hei hs0 (RpL.set (Rp.ext e2 r1) j l)) ((e1.trans e2).lat.trans set_lat)
          | _ => exact False.elim (show False from o2)
        | false =>
          cases d0 with
          | obj m =>
            rw [if_neg Bool.false_ne_true] at q0
            have q0' : Rp _ _ _ _ (.obj m) v0 := q0
            simp only [Rp] at q0'
            obtain ⟨a, ev, hm⟩ := q0'
            subst ev
            have o2 : OutS C (match st2[m]? with | some xs => (match ixN xs.length kk with | some j => Res.ok (Fl.nx env) (st2.set m (xs.set j d)) | none => .stuck) | none => .stuck) (kFl C κ De W) := o2
            cases hx : st2[m]? with
            | none => rw [hx] at o2; exact False.elim o2
            | some xs =>
              rw [hx] at o2
              obtain ⟨a', vs, g1, g2, g3⟩ := k2.cel m xs hx
              rw [hm] at g1
              cases g1
              have o2 : OutS C (match ixN xs.length kk with | some j => Res.ok (Fl.nx env) (st2.set m (xs.set j d)) | none => .stuck) (kFl C κ De W) := o2
              cases hj : ixN xs.length kk with
              | none => rw [hj] at o2; exact False.elim o2
              | some j =>
                rw [hj] at o2
                refine ⟨a, vs, kk, j, rfl, rfl, g2, by rw [← g3.len]; exact hj, ?_⟩
                have ext := cell_ext (o := .lst (vs.set j v)) hm (by rw [g2]; intro z; cases z)
                exact (show kFl C κ De W (.nx env) (st2.set m (xs.set j d)) from o2) σ (W2.new a (.lst (vs.set j v))) (R2.up ext (cell_ok k2 hm (RpL.set (Rp.ext e2 r1) j g3))) ((e1.trans e2).trans ext).lat
          | _ => exact False.elim (show False from o2)
      | _ => cases b <;> cases d0 <;> exact False.elim (show False from o2)
end
end Sm


set_option Elab.async false
set_option linter.all false
set_option maxRecDepth 100000
set_option maxHeartbeats 1000000
/-! Sm13: chains; the call of a def; the law's end. -/
namespace Sm
open PySem PySem.Spec L2

/-! ### a op b op' c -/
@[simp] def eChain (g g' : D → D → M D) (a b c : Ex) : Ex := fun env => bnd (a env) fun x => bnd (b env) fun y => bnd (g x y) fun t => match t with
  | .bl true => bnd (c env) fun z => g' y z
  | .bl false => ret (.bl false)
  | _ => halt
section
variable {C : Cn} {κa κb κc : Kd} {a b c : Expr} {ma mb mc : Ex} {g g' : D → D → M D} {op op' : CmpOp} {pos : Pos}
theorem se_chain (ho : SOp C .froz (compareOp op) g) (ho' : SOp C .froz (compareOp op') g') (ha : SE C κa a ma) (hb : SE C κb b mb) (hc : SE C κc c mc)
    (hm : lastMarks [op, op'] [b, c] = false := by with_unfolding_all rfl) : SE C .froz (.Compare a [op, op'] [b, c] pos) (eChain g g' ma mb mc) :=
  SE.mk fun pins s σ env W st Q I R o => by
    refine PyProof.Rows.Compare_chain (ha.go I R ((Out.bnd o).imp fun d1 st1 o1 x u s1 W1 e1 k1 r1 I1 ru => PyProof.Rows.chain_link (hb.go I1 (R.up e1 k1) (((Out.bnd o1).up e1).imp fun d2 st2 o2 y v s2 W2 e2 k2 r2 I2 rv => ?_)))) hm
    refine thn (ho pins s2 σ W2 st2 d1 d2 x y u v (fun z H => ∃ d st' W', W'.H = H ∧ Ext W2 W' ∧ C.ok W' st' ∧ C.rp W' d z ∧ Out C σ W ((match d with | .bl true => bnd (mc env) fun z => g' d2 z | .bl false => ret (.bl false) | _ => halt) st') (fun d st' => ∀ z W', Ext W W' → C.ok W' st' → C.rk .froz W W' d z → Q z W'.H)) I2 k2 (r1.bor.ext e2) r2.bor ru rv
      (((Out.bnd o2).up (e1.trans e2)).imp fun d st' q z W' e k r => ⟨d, st', W', rfl, e, k, r, q⟩)) fun t s3 ⟨z, H3, I3, rt, d, st3, W3, eH, e3, k3, r3, o3⟩ => ?_
    subst eH
    have e03 := (e1.trans e2).trans e3
    cases d with
    | bl i =>
      have ev := Bor.bl (.inl r3)
      subst ev
      cases rt
      refine wpAny_truthy_bool ?_
      cases i with
      | false =>
        exact PyProof.Rows.ite_ff ⟨.bl false, W3.H, I3, rfl, (show (∀ z W', Ext W W' → C.ok W' st3 → C.rk .froz W W' (.bl false) z → Q z W'.H) from o3) _ W3 e03 k3 (by simp [Cn.rk, RK, Rp])⟩
      | true =>
        refine PyProof.Rows.ite_tt (PyProof.Rows.chain_last (hc.go I3 (R.up e03 k3) (((Out.bnd o3).up e03).imp fun d3 st4 o4 w u4 s4 W4 e4 k4 r4 I4 rw4 => ?_)))
        exact ho' pins s4 σ W4 st4 d2 d3 y w v u4 Q I4 k4 (r2.bor.ext (e3.trans e4)) r4.bor rv rw4 ((o4.up (e03.trans e4)).imp fun d st' q z W' e k r => q z W' ((e03.trans e4).trans e) k r)
    | _ => exact (show False from o3).elim
theorem st_chain (ho : SOp C .froz (compareOp op) g) (ho' : SOp C .froz (compareOp op') g') (ha : SE C κa a ma) (hb : SE C κb b mb) (hc : SE C κc c mc)
    (hm : lastMarks [op, op'] [b, c] = false := by with_unfolding_all rfl) : ST C (.Compare a [op, op'] [b, c] pos) (tV (eChain g g' ma mb mc)) :=
  ST.mk fun pins s σ env W st Q I R o => by
    have o : Out C σ W (bnd (bnd (ma env) fun x => bnd (mb env) fun y => bnd (g x y) fun t => match t with | .bl true => bnd (mc env) fun z => g' y z | .bl false => ret (.bl false) | _ => halt) tru st) (fun b st' => ∀ W', Ext W W' → C.ok W' st' → Q b W'.H) := o
    have assoc : ∀ {α β γ : Type} (m : M α) (f : α → M β) (k : β → M γ), bnd (bnd m f) k = bnd m fun x => bnd (f x) k := fun m f k => by
      funext s
      unfold bnd
      cases m s <;> rfl
    rw [assoc] at o
    refine PyProof.Rows.isTrue_chain (ha.go I R ((Out.bnd o).imp fun d1 st1 o1 x u s1 W1 e1 k1 r1 I1 ru => ?_)) hm
    rw [assoc] at o1
    refine PyProof.Rows.test_link (hb.go I1 (R.up e1 k1) (((Out.bnd o1).up e1).imp fun d2 st2 o2 y v s2 W2 e2 k2 r2 I2 rv => ?_))
    rw [assoc] at o2
    refine thn (ho pins s2 σ W2 st2 d1 d2 x y u v (fun z H => ∃ d st' W', W'.H = H ∧ Ext W2 W' ∧ C.ok W' st' ∧ C.rp W' d z ∧ Out C σ W (bnd (match d with | .bl true => bnd (mc env) fun z => g' d2 z | .bl false => ret (.bl false) | _ => halt) tru st') (fun b st' => ∀ W', Ext W W' → C.ok W' st' → Q b W'.H)) I2 k2 (r1.bor.ext e2) r2.bor ru rv
      (((Out.bnd o2).up (e1.trans e2)).imp fun d st' q z W' e k r => ⟨d, st', W', rfl, e, k, r, q⟩)) fun t s3 ⟨z, H3, I3, rt, d, st3, W3, eH, e3, k3, r3, o3⟩ => ?_
    subst eH
    have e03 := (e1.trans e2).trans e3
    cases d with
    | bl i =>
      have ev := Bor.bl (.inl r3)
      subst ev
      cases rt
      refine wpAny_truthy_bool ?_
      cases i with
      | false =>
        exact PyProof.Rows.ite_ff ⟨W3.H, I3, (show (∀ W', Ext W W' → C.ok W' st3 → Q false W'.H) from o3) W3 e03 k3⟩
      | true =>
        have o3 : Out C σ W (bnd (bnd (mc env) fun z => g' d2 z) tru st3) (fun b st' => ∀ W', Ext W W' → C.ok W' st' → Q b W'.H) := o3
        rw [assoc] at o3
        refine PyProof.Rows.ite_tt (PyProof.Rows.test_last (hc.go I3 (R.up e03 k3) (((Out.bnd o3).up e03).imp fun d3 st4 o4 w u4 s4 W4 e4 k4 r4 I4 rw4 => ?_)))
        refine thn (ho' pins s4 σ W4 st4 d2 d3 y w v u4 (fun z H => ∃ q, TruV C.X.K z H q ∧ Q q H) I4 k4 (r2.bor.ext (e3.trans e4)) r4.bor rv rw4 (((Out.bnd o4).up (e03.trans e4)).imp fun d st' q z W' e k r => ?_)) fun t s5 ⟨z, H5, I5, rt, q⟩ => ?_
        · exact tru_ok k (.inl r) ((q.up ((e03.trans e4).trans e)).imp fun b st2 hq W2 e2 k2 => hq W2 (((e03.trans e4).trans e).trans e2) k2)
        · exact st_cmp.tru_ok_run I5 rt q
    | _ => exact (show False from o3).elim
end
end Sm


set_option Elab.async false
set_option linter.all false
set_option maxRecDepth 100000
set_option maxHeartbeats 1000000
/-! Sm14: the call of a def; the law's end. -/
namespace Sm
open PySem PySem.Spec L2
/-- a good context: k, the room for calls -/
structure Gd (C : Cn) (k : Nat) : Prop where
  calm : C.X.calm = true
  sys : Sysm C.X.K
  room : Room k C.X.A
  gu : C.X.A.guards = some []
  tk : Takes C.X C.Wx
  nd : C.X.N.Nodup
theorem Gd.un {C : Cn} {k : Nat} (G : Gd C k) : C.X.A.units + 64 < cLine := G.room.units
theorem Gd.blk {C : Cn} {k : Nat} (G : Gd C k) (s : Shared) (H : Hp) (scope : Scope) (Cl : Addr) (cl : List (Str × Addr)) (fp : List Addr) : Gd (C.blk s H scope Cl cl fp) k :=
  ⟨G.calm, G.sys, G.room, G.gu, fun u s' ⟨a, B, sI, pins, σ, H, cls, d, _, _, _, _, _, _, _, _, w⟩ => w.elim, G.nd⟩
def BearsF (K : PySem.W.Frag) (mg : Str → Option Value) (W : Wd) (c : Str) (fs : List (Str × D)) (cl : Addr) (d : Option Addr) : Prop :=
  mg c = some (.ref cl) ∧ match fs with
    | [] => True
    | [(f, x)] => ∃ dd v, d = some dd ∧ W.H dd = some (.xd [(f, v)]) ∧ Rp K mg W.as W.G x v
    | _ => False
/-- what a call of a def is to give -/
def OutF (K : PySem.W.Frag) (mg : Str → Option Value) (W : Wd) (E : XK) (r : Res D) (k : D → Store → Prop) : Prop := match r with
  | .ok a st => k a st
  | .exc c fs st => ∀ cl d W', Ext W W' → W'.Ok K mg st → BearsF K mg W' c fs cl d → E (.ref cl) d W'.H
  | .stuck => False
/-- a def does what F does -/
structure FnG (P : Program) (w : World) (K : PySem.W.Frag) (mg : Str → Option Value) (base : Heap) (k : Nat) (f : Addr) (fd : FuncData) (ps : List Str) (κ : Kd) (F : Fx) : Prop where
  run : ∀ (A : Around) (outer : List Env) (s : Shared) (args : Args) (us : List Value) (vs : List V) (W : Wd) (st : Store) (ds : List D) (Q : VK) (E : XK), Room k A → A.guards = some [] → Env0 P w K mg base A outer s W.H → BindsTo s fd args (ps.zip us) → Vals vs us →
    W.Ok K mg st → RpL K mg W.as W.G ds vs → ds.length = ps.length → (OutF K mg W E (F ds st) fun d st' => ∀ z W', Ext W W' → W'.Ok K mg st' → RK K mg κ W W' d z → Q z W'.H) →
    codeAny (model P w) A (.call (.ref f) args) (CR (L2.CX P w) outer P w W.H s Q E) s
theorem FnG.mono {P : Program} {w : World} {K : PySem.W.Frag} {mg : Str → Option Value} {base : Heap} {j k : Nat} {f : Addr} {fd : FuncData} {ps : List Str} {κ : Kd} {F : Fx} (h : FnG P w K mg base j f fd ps κ F) (hk : j ≤ k) : FnG P w K mg base k f fd ps κ F :=
  ⟨fun A outer s args us vs W st ds Q E hr => h.run A outer s args us vs W st ds Q E (hr.mono hk)⟩
/-- the context of a def's body -/
def bodyC (P : Program) (w : World) (K : PySem.W.Frag) (mg : Str → Option Value) (base : Heap) (N : List Str) (qual : Str) (scope : Scope) (f : Addr) (cd : Value) (A : Around) (outer : List Env) (s : Shared) (W : Wd) (E : XK) : Cn :=
  { X := cxOf (L2.CX P w) P w K mg base N qual scope f cd A outer s W.H E, W0 := W, Wx := fun cls d _ H => E cls d H }
@[simp] def env0 (ds : List D) : En := fun i => (ds[i]?).map fun d => (false, d)
/-- the body, called -/
@[simp] def endK : Kd → M D
  | .froz => ret .non
  | _ => halt
@[simp] def callS (κ : Kd) (m : Sx) (ds : List D) : M D := bnd (m (env0 ds)) fun f => match f with
  | .rt d => ret d
  | .nx _ => endK κ
section
variable {P : Program} {w : World} {K : PySem.W.Frag} {mg : Str → Option Value} {base : Heap} {k : Nat} {f : Addr} {fd : FuncData} {ps N : List Str} {κ : Kd} {F : Fx} {m : Sx} {x qual : Str} {params : Arguments} {body : List Stmt} {scope : Scope} {dvs : List V} {kws : List (Str × V)}
theorem SR.start {C : Cn} {W : Wd} {st : Store} {ds : List D} {vs : List V} (h0 : C.W0 = W) (k : C.ok W st) (r : RpL C.X.K C.X.mg W.as W.G ds vs) (hl : ds.length ≤ C.X.N.length) : SR C (env0 ds) W st (L2.start C.X.N vs) := by
  have e : ∀ {i b d}, env0 ds i = some (b, d) → b = false ∧ ds[i]? = some d := fun {i b d} h => by
    unfold env0 at h
    cases q : ds[i]? with
    | none => rw [q] at h; cases h
    | some d' => rw [q] at h; cases h; exact ⟨rfl, rfl⟩
  refine ⟨h0 ▸ .refl W, ?_, k, fun i b d h => ?_, fun i j d e' a _ h1 => ?_⟩
  · unfold L2.start
    rw [List.length_append, List.length_map, List.length_replicate, ← r.len]
    omega
  · obtain ⟨rfl, hd⟩ := e h
    obtain ⟨v, h1, h2⟩ := r.get' hd
    refine ⟨v, ?_, by rw [if_neg Bool.false_ne_true]; exact h2⟩
    unfold L2.start
    have hi : i < vs.length := by
      by_cases q : i < vs.length
      · exact q
      · rw [List.getElem?_eq_none (by omega)] at h1; cases h1
    rw [List.getElem?_append_left (by simpa using hi), List.getElem?_map, h1]
    rfl
  · exact absurd (e h1).1 (by decide)
/-- THE RULE: a def does what its body does -/
theorem fnG_of (FD : FunD K x qual params body scope dvs kws f fd) (S : FnScope N ps scope) (hs : Sysm K) (hF : F = callS κ m)
    (hbody : ∀ (cd : Value) (A : Around) (outer : List Env) (s : Shared) (W : Wd) (E : XK), Gd (bodyC P w K mg base N qual scope f cd A outer s W E) k → PassesOwn (model P w) (A.deeper (PyProof.Rows.envOfC qual scope s.heap.objs.size f cd)) (PyProof.Rows.envOfC qual scope s.heap.objs.size f cd) (bodyC P w K mg base N qual scope f cd A outer s W E).X.xe →
      SSs (bodyC P w K mg base N qual scope f cd A outer s W E) κ body m) : FnG P w K mg base (k + 1) f fd ps κ F := by
  obtain ⟨oc, od, dV, kV, doc, pm, an, cdv, ct, osl, rfl, lk, hcd, _, _⟩ := FD.ex
  refine ⟨fun A outer s args us vs W st ds Q E hr hg e0 hb r kW rp hlen ho => ?_⟩
  have hl : vs.length = ps.length := by rw [← rp.len]; exact hlen
  have KX : K.In s.heap := e0.mod.kin.keeps fun b o e => (e0.bs b o e).1
  have lim : s.heap.NoLimit := e0.mod.nolimit.keeps fun b o e => (e0.bs b o e).1
  have hkind : ∀ y ∈ ps.zip us, scope.names.lookup y.1 = some .local ∨ (scope.names.lookup y.1 = some .cell ∧ ((cellsFrom (s.heap.objs.size + 1) scope.names []).lookup y.1).isSome = true) := fun ⟨n, v⟩ hy => by
    rcases S.par n (List.of_mem_zip hy).1 with q | q
    · exact .inl q
    · exact .inr ⟨q, PySem.W.cellsFrom_some _ _ _ (.inl q)⟩
  refine codeAny_call_function hr.depth (KX _ _ lk) rfl S.co S.gen rfl (PySem.W.codeRec_of KX hcd) (hb _ _ _ _ ?_)
  refine wpAny_newFunctionEnv_cells S.kind hkind fun env he s1 y => ?_
  subst he
  refine ⟨lim.keeps y.toInCall.keep, codeAny_func ?_⟩
  have I : Inv (bodyC P w K mg base N qual scope f cdv A outer s W E).X [] (L2.start N vs) W.H s1 := inv_start S hr.hd e0 hl r y
  have G : Gd (bodyC P w K mg base N qual scope f cdv A outer s W E) k := ⟨rfl, hs, hr.deeper _, hg, takes_of rfl rfl rfl rfl, S.nd⟩
  have hN : ds.length ≤ N.length := by
    have := congrArg List.length S.pre
    rw [List.length_take] at this
    omega
  have hsr : SR (bodyC P w K mg base N qual scope f cdv A outer s W E) (env0 ds) W st (L2.start N vs) := SR.start (C := bodyC P w K mg base N qual scope f cdv A outer s W E) rfl kW rp hN
  refine wpAny_mono ((hbody cdv A outer s W E G (passes_of rfl)).run [] s1 (L2.start N vs) W.H { nx := fun _ H' => Q .non H', rt := Q } I ⟨env0 ds, W, st, rfl, hsr, ?_⟩) (fun fl s' hs => ?_) fun e s' hs => hs
  · rw [hF] at ho
    have ho : OutF K mg W E (callS κ m ds st) _ := ho
    unfold callS bnd at ho
    cases q : m (env0 ds) st with
    | ok fl st' =>
      rw [q] at ho
      cases fl with
      | nx env' =>
        cases κ with
        | froz => exact fun σ' W' R' l => (show (∀ z W', Ext W W' → W'.Ok K mg st' → RK K mg .froz W W' .non z → Q z W'.H) from ho) .non W' R'.ext R'.ok (by simp [RK, Rp])
        | bor => exact False.elim (show False from ho)
        | fresh => exact False.elim (show False from ho)
      | rt d => exact fun v W' e' k' r' => (show (∀ z W', Ext W W' → W'.Ok K mg st' → RK K mg κ W W' d z → Q z W'.H) from ho) v W' e' k' r'
    | exc c fs st' => rw [q] at ho; exact fun cl d W' σ' e' k' b => ho cl d W' e' k' b
    | stuck => rw [q] at ho; exact False.elim ho
  · have fin : ∀ {σ' : L2.St} {H' : Hp} {v : V} {u : Value}, Inv (bodyC P w K mg base N qual scope f cdv A outer s W E).X [] σ' H' s' → RelV v u → Q v H' → CE outer P w W.H s Q u s' :=
      fun {σ' H' v u} J rv q => ⟨v, H', J.os, J.bare, J.base, J.hok, rv, q⟩
    cases fl with
    | ret u =>
      obtain ⟨v, σ', H', J, rv, q⟩ := hs
      exact fin J rv q
    | next =>
      obtain ⟨σ', H', J, q⟩ := hs
      exact fin (v := V.non) (u := Value.none) J rfl q
    | brk =>
      obtain ⟨_, _, _, q⟩ := hs
      exact False.elim q
    | cont =>
      obtain ⟨_, _, _, q⟩ := hs
      exact False.elim q
end

/-! ### calls -/
section
variable {C : Cn} {k j : Nat} {f : Addr} {fd : FuncData} {ps : List Str} {κ : Kd} {F : Fx} {e : Expr} {es : List Expr} {ml : Lx} {x : Str} {p pos : Pos}
theorem outF_of {W : Wd} {r : Res D} {q : D → Store → Prop} {σ : L2.St} (o : Out C σ W r q) : OutF C.X.K C.X.mg W (fun c d H => C.Wx c d σ H) r q := by
  cases r with
  | ok a st => exact o
  | exc c fs st => exact o
  | stuck => exact o
theorem run_call {pins : List (Addr × Obj)} {s : Shared} {σ : L2.St} {W : Wd} {st : Store} {ds : List D} {vs : List V} {us : List Value} {Q : VK} (G : Gd C k) (FG : FnG C.X.prog C.X.w C.X.K C.X.mg C.X.base j f fd ps κ F) (hj : j ≤ k) (hb : Binds C.X.K fd ps []) (hl : ds.length = ps.length)
    (I : Inv C.X pins σ W.H s) (kW : C.ok W st) (r : RpL C.X.K C.X.mg W.as W.G ds vs) (rv : Vals vs us) (o : Out C σ W (F ds st) (KEnd C κ W Q)) : wpAny (model C.X.prog C.X.w) C.X.A (call (.ref f) us) (EP C.X pins σ Q) C.X.xe s := by
  have hlu : us.length = ps.length := by rw [← rv.length, ← r.len]; exact hl
  have b := hb s us I.kIn (by rw [List.append_nil]; exact hlu)
  rw [List.append_nil] at b
  refine wpAny_call (codeAny_mono ((FG.mono hj).run C.X.A C.X.stack s ⟨us, []⟩ us vs W st ds Q (fun c d H => C.Wx c d σ H) G.room G.gu I.env0 b rv kW r hl (outF_of o)) fun r s' hq => ?_)
  cases r with
  | error e => exact passAt G.tk σ pins W.H s e s' I hq
  | ok fl =>
    cases fl with
    | ret u => exact I.after hq
    | next => exact False.elim hq
    | brk => exact False.elim hq
    | cont => exact False.elim hq
/-- f(e, ..), f a def of the module -/
theorem se_call {n : Nat} (G : Gd C k) (FG : FnG C.X.prog C.X.w C.X.K C.X.mg C.X.base j f fd ps κ F) (hj : j ≤ k) (hb : Binds C.X.K fd ps []) (hg : Gl C.X x) (hm : C.X.mg x = some (.ref f)) (hk : PySem.W.keepIn C.X.K (.ref f) = true) (ha : SA C (e :: es) ml) (hln : Ln ml n) (hn : n = ps.length := by rfl)
    (hdb : (x == ("__debug__" : Str)) = false := by decide) (he : starEach (e :: es) C.X.env = (false, eval e C.X.env) :: starEach es C.X.env := by rfl) (hpl : (backTo pos (starEach es C.X.env)).any (·.1) = false := by rfl) :
    SE C κ (.Call (.Name x p) (e :: es) [] pos) (eFn F ml) :=
  SE.mk fun pins s σ env W st Q I R o => by
    refine wpAny_Call_Name_kw (ld_glob I hg hm ?_ hdb)
    refine PySem.W.callWith_K (h₀ := C.X.base) I.ok.mod.kin hk (ha.go I R ((out_ln hln o).imp fun ds st1 ⟨hz, o1⟩ vs us s1 W1 e1 k1 r1 I1 rv => ⟨I1.kIn, ?_⟩)) he hpl
    exact run_call G FG hj hb (hz.trans hn) I1 k1 r1 rv ((o1.up e1).imp fun d st2 q z W2 e2 k2 r2 => q z W2 (e1.trans e2) k2 (r2.down e1))
/-- f() -/
theorem se_call0 (G : Gd C k) (FG : FnG C.X.prog C.X.w C.X.K C.X.mg C.X.base j f fd [] κ F) (hj : j ≤ k) (hb : Binds C.X.K fd [] []) (hg : Gl C.X x) (hm : C.X.mg x = some (.ref f)) (hk : PySem.W.keepIn C.X.K (.ref f) = true) (hdb : (x == ("__debug__" : Str)) = false := by decide) :
    SE C κ (.Call (.Name x p) [] [] pos) (fun _ => F []) :=
  SE.mk fun pins s σ env W st Q I R o => by
    refine wpAny_Call_Name_kw (ld_glob I hg hm ?_ hdb)
    exact PySem.W.callWith_K0 I.kIn hk (run_call (us := []) G FG hj hb rfl I R.ok (by simp [RpL]) .nil o)
end

/-! ### the law's end -/
/-- an int, as the script holds it -/
def scrD (ns : List Int) : D := .scr (ns.map D.int)
theorem rpl_ints {K : PySem.W.Frag} {mg : Str → Option Value} {as : List Addr} {G : Hp} : ∀ ns : List Int, RpL K mg as G (ns.map D.int) (ns.map V.int)
  | [] => by simp [RpL]
  | n :: ns => by
    simp only [List.map_cons, RpL, Rp]
    exact ⟨_, _, rfl, rfl, rpl_ints ns⟩
/-- the def's promise, for the kit's end: at the caller's place alone -/
theorem law_run {P : Program} {w : World} {K : PySem.W.Frag} {mg : Str → Option Value} {base : Heap} {k : Nat} {f a : Addr} {fd : FuncData} {x : Str} {F : Fx} {s : Shared} {H : Hp} {ns : List Int} (FG : FnG P w K mg base k f fd [x] .froz F) (hr : Room k callerA) (e0 : Env0 P w K mg base callerA [] s H)
    (hb : BindsTo s fd ⟨[.ref a], []⟩ [(x, .ref a)]) (hS : SqL K H a (ns.map V.int)) (hF : ∃ st', F [scrD ns] [] = .ok (.bl true) st') :
    codeAny (model P w) callerA (.call (.ref f) ⟨[.ref a], []⟩) (CR (L2.CX P w) [] P w H s (fun v _ => v = .bl true) fun _ _ _ => False) s := by
  obtain ⟨st', hF⟩ := hF
  refine FG.run callerA [] s ⟨[.ref a], []⟩ [.ref a] [.ref a] { H := H, G := H, as := [] } [] [scrD ns] _ _ hr rfl e0 hb (.cons rfl .nil) (show Wd.Ok K mg { H := H, G := H, as := [] } [] from ⟨fun _ _ h => h, List.nodup_nil, fun _ h => (List.not_mem_nil h).elim, rfl, fun i ds h => by simp at h⟩) ?_ rfl ?_
  · simp only [RpL, scrD, Rp]
    exact ⟨.ref a, [], rfl, ⟨a, ns.map V.int, rfl, hS, rpl_ints ns⟩, rfl⟩
  · rw [hF]
    intro z W' e k r
    have r' : Rp K mg W'.as W'.G (.bl true) z := r
    simpa only [Rp] using r'
section
open PyProof.Rows
/-- the heap behind the top, the script told by itself -/
theorem law_end {P : Program} {w : World} {K : PySem.W.Frag} {mg mb : Str → Option Value} {fa a : Addr} {s₁ : Shared} {vs : List Value} {ns : List Int}
    (KX : K.In s₁.heap) (hns : s₁.heap.Ns mainGlobals mg) (hb : s₁.heap.Ns builtinsNs mb) (hbb : ∀ x : Str, x ≠ "__name__" → mb x = bootBuiltins x) (hlim : s₁.heap.NoLimit) (hg : s₁.gens = #[])
    (ha : s₁.heap.get? a = some { cls := .type "list", data := .seq vs.toArray }) (hi : IntsAre vs ns) (hl : ns.length ≤ sizeLine)
    (go : ∀ (base : Heap) (H : Hp), K.In base → base.Ns mainGlobals mg → SqL K H a (ns.map V.int) → Env0 P w K mg base callerA [] s₁ H →
      codeAny (model P w) callerA (.call (.ref fa) ⟨[.ref a], []⟩) (CR (L2.CX P w) [] P w H s₁ (fun v _ => v = .bl true) fun _ _ _ => False) s₁) :
    codeAny (model P w) callerA (.call (.ref fa) ⟨[.ref a], []⟩) (fun r s' => r = .ok (.ret (.bool true)) ∧ OldK s₁.heap s'.heap ∧ s'.os = s₁.os ∧ AllBare s'.gens) s₁ := by
  have rv := vals_ints hi
  have lenV := hi.length
  have main : ∀ H : Hp, (∀ b u, H b = some u → b = a ∧ K.lookup a = none ∧ ∃ o xs, u = .frz o (.lst xs)) → SqL K H a (ns.map V.int) → HOk P w H s₁.heap →
      codeAny (model P w) callerA (.call (.ref fa) ⟨[.ref a], []⟩) (fun r s' => r = .ok (.ret (.bool true)) ∧ OldK s₁.heap s'.heap ∧ s'.os = s₁.os ∧ AllBare s'.gens) s₁ := by
    intro H hH hS hok
    have free : ∀ {b : Addr}, b ≠ a → H b = none := fun {b} n => by
      cases q : H b with
      | none => rfl
      | some u => exact absurd (hH b u q).1 n
    have keep : ∀ {b : Addr} {o : Obj} {es : Array DictEntry} {ep : Nat}, s₁.heap.get? b = some o → o.data = .dict es ep → (hidT s₁.heap H).get? b = some o := fun {b o es ep} e d => by
      refine hidT_get e (free fun z => ?_)
      rw [z, ha] at e
      cases e
      have d' : Data.seq vs.toArray _ = Data.dict es ep := d
      cases d'
    have nsK : ∀ {b : Addr} {m : Str → Option Value}, s₁.heap.Ns b m → (hidT s₁.heap H).Ns b m := fun {b m} ⟨o, es, ep, e, d, r⟩ => ⟨o, es, ep, keep e d, d, r⟩
    have hKb : K.In (hidT s₁.heap H) := fun b o e => hidT_get (KX b o e) (by
      cases q : H b with
      | none => rfl
      | some u =>
        obtain ⟨z, n, _⟩ := hH b u q
        rw [z, n] at e; cases e)
    have hM : Mod K mg (hidT s₁.heap H) := ⟨hKb, nsK hns, ⟨mb, nsK hb, hbb⟩, let ⟨mc, h1, h2⟩ := hlim; ⟨mc, nsK h1, h2⟩⟩
    have e0 : Env0 P w K mg (hidT s₁.heap H) callerA [] s₁ H := ⟨rfl, hM, fun b o e => of_hidT e, Nat.le_of_eq (hidT_size _ _), trivial, fun b hb => absurd (show b ∈ ([] : List Addr) from hb) (by simp), hok, .of_eq hg⟩
    refine codeAny_mono (go (hidT s₁.heap H) H hKb (nsK hns) hS e0) fun r s' h => ?_
    cases r with
    | error e =>
      obtain ⟨_, _, _, _, _, _, _, _, _, _, _, _, w⟩ := h
      exact w.elim
    | ok fl =>
      cases fl with
      | ret u =>
        obtain ⟨v, H', os, bare, un, hok', r', q⟩ := h
        have q' : v = .bl true := q
        subst q'
        obtain rfl : u = Value.bool true := r'
        refine ⟨rfl, OldK.of_keep fun b o e => ?_, os, bare⟩
        cases q : H b with
        | none => exact un.keep b o e q (fun z => absurd (show b ∈ ([] : List Addr) from z) (by simp)) (by simp)
        | some u =>
          obtain ⟨_, _, ob, xs, rfl⟩ := hH b u q
          obtain ⟨e1, _⟩ := hok b _ q
          obtain ⟨e2, _⟩ := hok' b _ (un.frzs b ob _ q)
          rw [e] at e1; cases e1
          exact e2
      | next => exact False.elim h
      | brk => exact False.elim h
      | cont => exact False.elim h
  cases hk : K.lookup a with
  | some o =>
    have e := KX a o hk
    rw [ha] at e
    cases e
    refine main (fun _ => none) (fun b u z => ?_) (.inr ⟨_, vs.toArray, _, hk, rfl, rfl, rfl, by rw [List.size_toArray, lenV]; exact hl, by simpa using rv⟩) fun b u z => ?_
    · have z' : (none : Option HO) = some u := z
      cases z'
    · have z' : (none : Option HO) = some u := z
      cases z'
  | none =>
    refine main (fun b => if b = a then some (.frz { cls := .type "list", data := .seq vs.toArray } (.lst (ns.map V.int))) else none) (fun b u z => ?_) (.inl (.inr ⟨{ cls := .type "list", data := .seq vs.toArray }, if_pos rfl⟩)) fun b u z => ?_
    · by_cases q : b = a
      · have z' := (if_pos q).symm.trans z
        cases z'
        exact ⟨q, hk, _, _, rfl⟩
      · have z' := (if_neg q).symm.trans z
        cases z'
    · by_cases q : b = a
      · have z' := (if_pos q).symm.trans z
        cases z'
        subst q
        exact ⟨ha, by rw [List.length_map]; exact hl, vs, _, rv, ha⟩
      · have z' := (if_neg q).symm.trans z
        cases z'
/-- a law over a head by facts: F, what the law's def computes -/
theorem walk_ofG {l : PySem.W.OpenLaw} {n k : Nat} {q : Program} {loose : List Str} {XP : (Str → Option Value) → Heap → Prop} {YP : World → Heap → Prop} {d : DefRec} {x : Str} {Fl : Fx}
    (hn : l.most = some n) (hn2 : n ≤ sizeLine) (hdf : d.params.defaults = []) (hr : Room k callerA)
    (F : ∀ (w : World) (mg : Str → Option Value) (fa : Addr) (h : Heap), YP w h → h.Ns mainGlobals mg → mg d.name = some (.ref fa) →
      ∃ (K : PySem.W.Frag) (fd : FuncData), K.In h ∧ (∀ (s : Shared) (u : Value), BindsTo s fd ⟨[u], []⟩ [(x, u)]) ∧ ∀ base : Heap, K.In base → base.Ns mainGlobals mg → FnG l.prog w K mg base k fa fd [x] .froz Fl)
    (hF : ∀ ns : List Int, ns.length ≤ n → ∃ st', Fl [scrD ns] [] = .ok (.bl true) st') :
    PySem.W.WalkO q loose XP YP l.row.toRowW d [] (fun f vs => PySem.call f vs) := by
  refine Att.attach_call hn hdf fun w s₀ s₁ mg mb fa o pm cd doc a vs ns G Y ho hd hcd hmg hobj hints hlen hg => ?_
  obtain ⟨K, fd, KX, hb, hFn⟩ := F w mg fa _ Y G.T.g hmg
  exact law_end KX G.T.g G.T.b G.T.builtins G.T.nolimit hg hobj hints (Nat.le_trans hlen hn2) fun base H hK hN hS e0 => law_run (hFn base hK hN) hr e0 (hb s₁ (.ref a)) hS (hF ns hlen)
end
end Sm


set_option Elab.async false
set_option linter.all false
set_option maxRecDepth 100000
set_option maxHeartbeats 1000000
/-! Sm15: what the printed terms use. -/
namespace Sm
open PySem PySem.Spec L2
/-! ### operators of any kind -/
theorem SOp.frz {C : Cn} {f : Value → Value → Sem Value} {g : D → D → M D} (h : SOp C .fresh f g) : SOp C .froz f g := by
  intro pins s σ W st d1 d2 x y u v Q I k b1 b2 ru rv o
  refine h pins s σ W st d1 d2 x y u v Q I k b1 b2 ru rv (o.imp fun d st' hq z W' e k' r => ?_)
  obtain ⟨a, ev, n0, ng, na, t⟩ := r
  subst ev
  exact hq (.ref a) (W'.frz a) (frz_ext e n0 ng) (frz_ok k' ng na) (frz_rp ng t)
theorem SOp.or {C : Cn} {κ : Kd} {f : Value → Value → Sem Value} {g g' : D → D → Option D} (h : SOp C κ f (pur g)) (h' : SOp C κ f (pur g')) : SOp C κ f (pur fun a b => (g a b).or (g' a b)) := by
  intro pins s σ W st d1 d2 x y u v Q I k b1 b2 ru rv o
  cases q : g d1 d2 with
  | some d =>
    refine h pins s σ W st d1 d2 x y u v Q I k b1 b2 ru rv ?_
    have e : pur (fun a b => (g a b).or (g' a b)) d1 d2 = pur g d1 d2 := by show lift ((g d1 d2).or (g' d1 d2)) = lift (g d1 d2); rw [q]; rfl
    rw [← e]; exact o
  | none =>
    refine h' pins s σ W st d1 d2 x y u v Q I k b1 b2 ru rv ?_
    have e : pur (fun a b => (g a b).or (g' a b)) d1 d2 = pur g' d1 d2 := by show lift ((g d1 d2).or (g' d1 d2)) = lift (g' d1 d2); rw [q]; rfl
    rw [← e]; exact o
def addA (a b : D) : Option D := (addD a b).or (addL a b)
def mulA (a b : D) : Option D := (mulD a b).or (mulL a b)
theorem sop_addA {C : Cn} : SOp C .froz (binaryOp .Add) (pur addA) := SOp.or sop_add sop_addL.frz
theorem sop_mulA {C : Cn} : SOp C .froz (binaryOp .Mult) (pur mulA) := SOp.or sop_mul sop_mulL.frz
/-- a[lo:hi] of anything -/
def slA (d : D) (lo hi : Option Int) : Option D := match d with
  | .lst xs => some (.lst (cut xs lo hi))
  | .scr xs => some (.lst (cut xs lo hi))
  | .tup xs => some (.tup (cut xs lo hi))
  | .str z => if z.length ≤ line then some (.str (cutS z lo hi)) else none
  | _ => none
section
variable {C : Cn} {κ : Kd} {a : Expr} {ma : Ex} {lo hi : Option Expr} {ml mh : Px} {pos p2 : Pos}
theorem se_slA (ha : SE C κ a ma) (hl : SO C lo ml) (hh : SO C hi mh) : SE C .froz (.Subscript a (.Slice lo hi none p2) pos) (eSl slA ma ml mh) :=
  PE.imp (pe_slice ((sl_tupF.or sl_str).or sl_list) ha hl hh) fun σ H Q ⟨env, W, st, e, R, o⟩ => by
    subst e
    refine ⟨env, W, st, rfl, R, (Out.bnd o).imp fun d st1 o1 v W1 e1 k1 r1 => ⟨env, W1, st1, rfl, R.up e1 k1, ((Out.bnd o1).up e1).imp fun l st2 o2 W2 e2 k2 => ⟨env, W2, st2, rfl, R.up (e1.trans e2) k2, ((Out.bnd o2).up (e1.trans e2)).imp fun u st3 o3 W3 e3 k3 => ?_⟩⟩⟩
    have e03 := (e1.trans e2).trans e3
    have b3 := r1.bor.ext (e2.trans e3)
    have fin : ∀ {xs : List D} {vs : List V} {p : Addr}, v = .ref p → SqL C.X.K W3.H p vs → RpL C.X.K C.X.mg W3.as W3.G xs vs → (∀ z W', Ext W W' → C.ok W' st3 → C.rk .froz W W' (.lst (cut xs l u)) z → Q z W'.H) → rSlL C.X.K v l u W3.H Q :=
      fun {xs vs p} ev hp r q => ⟨_, _, ev, hp, fun p' np => by
        have ng := new_g (o := .lst (cutV vs l u)) k3 np
        have na := new_as (o := .lst (cutV vs l u)) k3 np
        exact q _ ((W3.new p' (.lst (cutV vs l u))).frz p') (e03.trans (frz_ext (new_ext np) np ng)) (frz_ok (new_ok k3 np) ng na) (frz_rp ng ⟨_, upd_same, r.cut⟩)⟩
    cases d with
    | lst xs =>
      obtain ⟨p, vs, ev, hp, r⟩ := b3.lst k3
      exact .inr (fin ev (.inl (.inl hp)) r o3)
    | scr xs =>
      obtain ⟨p, vs, ev, hp, r⟩ := b3.scr k3
      exact .inr (fin ev hp r o3)
    | tup xs =>
      have q : ∀ z W', Ext W W' → C.ok W' st3 → C.rk .froz W W' (.tup (cut xs l u)) z → Q z W'.H := o3
      obtain ⟨p, vs, ev, hp, r⟩ := b3.tup k3
      refine .inl (.inl ⟨p, vs, ev, hp, fun h => ?_, fun p' ob np no => q _ (W3.newT p' ob (cutV vs l u)) (e03.trans (newT_ext k3 np)) (newT_ok k3 np) (newT_rp k3 np no r.cut)⟩)
      have := q v W3 e03 k3 (by rw [cut_all (by rw [r.len]; exact h)]; exact b3.froz_tup)
      rw [ev] at this
      exact this
    | str z =>
      have e1 := b3.str
      subst e1
      have o' : Out C σ W (lift (if z.length ≤ line then some (D.str (cutS z l u)) else none) st3) _ := o3
      by_cases hz : z.length ≤ line
      · rw [if_pos hz] at o'
        exact .inl (.inr ⟨z, rfl, by rw [← line_eq]; exact hz, o' _ W3 e03 k3 (by simp [Cn.rk, RK, Rp])⟩)
      · rw [if_neg hz] at o'; exact False.elim o'
    | _ => exact False.elim (show False from o3)
end
/-- return x, x one's own list -/
def sRetOwn (i : Nat) : Sx := fun env => match env i with
  | some (true, d) => ret (.rt d)
  | _ => halt
theorem ss_retOwn {C : Cn} {i : Nat} {x : Str} {px pos : Pos} (hN : C.X.N[i]? = some x) (hv : Vis C.X.env.scope x) (hd : (x == ("__debug__" : Str)) = false := by decide) (hcd : (x == ("__classdict__" : Str)) = false := by decide) : SS C .fresh (.Return (some (.Name x px)) pos) (sRetOwn i) :=
  PS.imp (ps_ret (pe_var (X := C.X) hN hv hd hcd)) fun De σ H ⟨env, W, st, e, R, o⟩ => by
    subst e
    unfold sRetOwn at o
    cases q : env i with
    | none => rw [q] at o; exact False.elim o
    | some p =>
      obtain ⟨b, d⟩ := p
      rw [q] at o
      cases b with
      | false => exact False.elim o
      | true =>
        obtain ⟨v, h1, h2⟩ := R.slot i true d q
        rw [if_pos rfl] at h2
        exact ⟨v, h1, (show kFl C .fresh De W (.rt d) st from o) v W R.ext R.ok h2⟩
/-! ### promises by names -/
/-- the module's def x does what F does -/
def Prm (P : Program) (w : World) (K : PySem.W.Frag) (mg : Str → Option Value) (base : Heap) (k : Nat) (x : Str) (ps : List Str) (κ : Kd) (F : Fx) : Prop :=
  ∃ (f : Addr) (fd : FuncData), mg x = some (.ref f) ∧ Binds K fd ps [] ∧ PySem.W.keepIn K (.ref f) = true ∧ FnG P w K mg base k f fd ps κ F
section
variable {C : Cn} {k j : Nat} {ps : List Str} {κ : Kd} {F : Fx} {e : Expr} {es : List Expr} {ml : Lx} {x : Str} {p pos : Pos}
theorem se_callP {n : Nat} (G : Gd C k) (q : Prm C.X.prog C.X.w C.X.K C.X.mg C.X.base j x ps κ F) (hj : j ≤ k) (hg : Gl C.X x) (ha : SA C (e :: es) ml) (hln : Ln ml n) (hn : n = ps.length := by rfl)
    (hdb : (x == ("__debug__" : Str)) = false := by decide) (he : starEach (e :: es) C.X.env = (false, eval e C.X.env) :: starEach es C.X.env := by rfl) (hpl : (backTo pos (starEach es C.X.env)).any (·.1) = false := by rfl) :
    SE C κ (.Call (.Name x p) (e :: es) [] pos) (eFn F ml) := by
  obtain ⟨f, fd, hm, hb, hk, FG⟩ := q
  exact se_call G FG hj hb hg hm hk ha hln hn hdb he hpl
theorem se_callP0 (G : Gd C k) (q : Prm C.X.prog C.X.w C.X.K C.X.mg C.X.base j x [] κ F) (hj : j ≤ k) (hg : Gl C.X x) (hdb : (x == ("__debug__" : Str)) = false := by decide) : SE C κ (.Call (.Name x p) [] [] pos) (fun _ => F []) := by
  obtain ⟨f, fd, hm, hb, hk, FG⟩ := q
  exact se_call0 G FG hj hb hg hm hk hdb
end
/-! ### the head's facts -/
/-- sys.modules stands in the part too -/
def obsS (fa : List He.Fa) (fn : List He.DefD) (K : PySem.W.Frag) : He.AlD := ((He.obsD fa fn K).1 && (K.lookup sysModules).isSome, (He.obsD fa fn K).2)
def obsSG (n : Nat) (fa : List He.Fa) (fn : List He.DefD) (g : Addr → Option Obj) : He.AlD := obsS fa fn (He.frG g (sysModules :: He.asD g n))
def hookS (n : Nat) (fa : List He.Fa) (fn : List He.DefD) : PySem.W.Hook where
  α := He.AlD
  obs := fun s => obsSG n fa fn s.heap.get?
  val := fun _ => He.valD fn
  says := fun _ h => ∃ K : PySem.W.Frag, K.In h ∧ obsS fa fn K = He.valD fn
  of := fun _ _ e => ⟨_, He.frG_in, e⟩
  keeps := fun _ _ _ ⟨K, hK, c⟩ k => ⟨K, PySem.W.Frag.In.keeps hK k, c⟩
theorem obsSG_eq {n : Nat} {fa : List He.Fa} {fn : List He.DefD} {g : Addr → Option Obj} {s : Shared} (h : ∀ a, g a = s.heap.get? a) : obsSG n fa fn g = (hookS n fa fn).obs s := by
  have e : g = s.heap.get? := funext h
  rw [e]; rfl
/-- what the head tells: of K, of the module's names -/
structure Says (fa : List He.Fa) (fn : List He.DefD) (K : PySem.W.Frag) (mg : Str → Option Value) : Prop where
  c : He.SaysD fa fn K
  sys : Sysm K
  gl : ∃ h : Heap, K.In h ∧ h.Ns mainGlobals mg
theorem Says.of {fa : List He.Fa} {fn : List He.DefD} {K : PySem.W.Frag} {mg : Str → Option Value} {h : Heap} (X : K.In h) (G : h.Ns mainGlobals mg) (e : obsS fa fn K = He.valD fn) : Says fa fn K mg := by
  have e1 : ((He.obsD fa fn K).1 && (K.lookup sysModules).isSome) = true := congrArg (fun z : He.AlD => z.1) e
  have e2 : (obsS fa fn K).2 = (He.valD fn).2 := congrArg (fun z : He.AlD => z.2) e
  have e2 : (He.obsD fa fn K).2 = (He.valD fn).2 := e2
  obtain ⟨h1, h2⟩ := Bool.and_eq_true_iff.mp e1
  refine ⟨?_, Option.isSome_iff_exists.mp h2, h, X, G⟩
  show He.obsD fa fn K = He.valD fn
  have : He.obsD fa fn K = ((He.obsD fa fn K).1, (He.obsD fa fn K).2) := rfl
  rw [this, h1, e2]
  rfl
section
variable {fa : List He.Fa} {fn : List He.DefD} {K : PySem.W.Frag} {mg : Str → Option Value}
theorem Says.no (S : Says fa fn K mg) (i : Nat) {x : Str} (h : fa[i]? = some (.free x)) : mg x = none := let ⟨_, X, G⟩ := S.gl; He.free_ok X G (S.c.fact i h)
theorem Says.in_ (S : Says fa fn K mg) (i : Nat) {x : Str} {n : Int} (h : fa[i]? = some (.int x n)) : ∃ t, mg x = some (.int n t) := let ⟨_, X, G⟩ := S.gl; He.int_ok X G (S.c.fact i h)
theorem Says.st (S : Says fa fn K mg) (i : Nat) {x z : Str} (h : fa[i]? = some (.str x z)) : ∃ t, mg x = some (.str z t) := let ⟨_, X, G⟩ := S.gl; He.str_ok X G (S.c.fact i h)
theorem Says.go (S : Says fa fn K mg) (i : Nat) {x : Str} (h : fa[i]? = some (.glo x)) : mg x = some (.ref (He.ga K x)) := let ⟨_, X, G⟩ := S.gl; He.glo_ok X G (S.c.fact i h)
/-- a def of the module keeps its promise -/
theorem prm_of {P : Program} {w : World} {base : Heap} {k : Nat} {N ps : List Str} {κ : Kd} {m : Sx} (S : Says fa fn K mg) (i j : Nat) {d : He.DefD} (hd : fn[i]? = some d) {x : Str} (hx : fa[j]? = some (.glo x)) (hat : d.at_ = (x, none)) (hdf : d.dfl = []) (hkw : d.kwd = [])
    (sc : FnScope N ps d.scope)
    (hb : ∀ (kV doc pm : Value) (an : Option Addr) (cdv ct : Value) (us : List Value), us.length = ps.length → bindArgs (PySem.W.fnOf d.name d.qual d.params d.body d.scope .none kV doc pm an cdv ct) ⟨us, []⟩ = pure (ps.zip us))
    (hbody : ∀ (f : Addr) (cd : Value) (A : Around) (outer : List Env) (s : Shared) (W : Wd) (E : XK), Gd (bodyC P w K mg base N d.qual d.scope f cd A outer s W E) k → PassesOwn (model P w) (A.deeper (PyProof.Rows.envOfC d.qual d.scope s.heap.objs.size f cd)) (PyProof.Rows.envOfC d.qual d.scope s.heap.objs.size f cd) (bodyC P w K mg base N d.qual d.scope f cd A outer s W E).X.xe →
      SSs (bodyC P w K mg base N d.qual d.scope f cd A outer s W E) κ d.body m) : Prm P w K mg base (k + 1) x ps κ (callS κ m) := by
  obtain ⟨fd, FD⟩ := S.c.def_ i hd
  have hmg := S.go j hx
  have ef : He.fAd K d.at_ = He.ga K x := by rw [hat]; rfl
  rw [ef] at FD
  have e1 : d.dvs K = [] := by unfold He.DefD.dvs; rw [hdf]; rfl
  have e2 : d.kws K = [] := by unfold He.DefD.kws; rw [hkw]; rfl
  rw [e1, e2] at FD
  exact ⟨_, fd, hmg, FD.bindsN hb, FD.kp, fnG_of FD sc S.sys rfl (hbody _)⟩
end

theorem gl_of {X : Cx} {x : Str} (h : X.env.kindOf x = some .globalImplicit) : Gl X x := h
theorem gl_len_nil : ∀ (ds : List D) (env env' : En), gNl ds env = some env' → ds.length = 0 := fun ds env env' h => by
  cases ds with
  | nil => rfl
  | cons d ds => cases h
theorem gl_len_cons {g : Gx} {gs : List D → En → Option En} {n : Nat} (h : ∀ (ds : List D) (env env' : En), gs ds env = some env' → ds.length = n) : ∀ (ds : List D) (env env' : En), gCs g gs ds env = some env' → ds.length = n + 1 := fun ds env env' e => by
  cases ds with
  | nil => cases e
  | cons d ds =>
    have e' : (g d env).bind (gs ds) = some env' := e
    cases q : g d env with
    | none => rw [q] at e'; cases e'
    | some env1 =>
      rw [q] at e'
      rw [List.length_cons, h ds env1 env' e']
/-! ### {k: v} -/
def keyD : D → Option Key
  | .int i => some (.inl i)
  | .str x => some (.inr x)
  | _ => none
theorem keyD_is {d : D} {q : Key} (h : keyD d = some q) : d = kD q := by
  cases d with
  | int i => cases h; rfl
  | str x => cases h; rfl
  | _ => cases h
def dct1 (k v : D) : M D := lift ((keyD k).map fun _ => .dct [(k, v)])
def eDct1 (k v : Ex) : Ex := fun env => bnd (k env) fun a => bnd (v env) fun b => dct1 a b
theorem se_dct1 {C : Cn} {ke ve : Expr} {mk mv : Ex} {pos : Pos} (hk : SE C .froz ke mk) (hv : SE C .froz ve mv) : SE C .fresh (.Dict [some ke] [ve] pos) (eDct1 mk mv) :=
  PE.imp (pe_disp (pps_cons hk hv pps_nil) rfl rfl (by simp) (by show 1 ≤ 15; decide)) fun σ H Q ⟨env, W, st, e, R, o⟩ => by
    subst e
    intro p np
    have e0 : Ext W (W.new p (.dK [])) := new_ext np
    have k0 : C.ok (W.new p (.dK [])) st := new_ok R.ok np
    have keep : ∀ {W2 : Wd}, Ext (W.new p (.dK [])) W2 → W2.H p = some (.dK []) ∧ W2.G p = none ∧ p ∉ W2.as := fun {W2} e2 => by
      have na := new_as (o := .dK []) R.ok np
      have ng := new_g (o := .dK []) R.ok np
      have h1 : W2.H p = some (.dK []) := e2.h p _ upd_same na
      refine ⟨h1, ?_, notas e2 (by show upd W.H p _ p ≠ none; rw [upd_same]; intro z; cases z) na⟩
      cases z : W2.G p with
      | none => rfl
      | some u =>
        have := e2.gn p ng (by rw [z]; intro q; cases q)
        have h2 : (W.new p (.dK [])).H p = some (.dK []) := upd_same
        rw [h2] at this; cases this
    refine ⟨env, W.new p (.dK []), st, rfl, R.up e0 k0, ((Out.bnd o).up e0).imp fun d1 st1 o1 x W1 e1 k1 r1 => ⟨env, W1, st1, rfl, (R.up e0 k0).up e1 k1, ((Out.bnd o1).up (e0.trans e1)).imp fun d2 st2 o2 y W2 e2 k2 r2 => ?_⟩⟩
    obtain ⟨h1, h2, h3⟩ := keep (e1.trans e2)
    obtain ⟨dd, hd, o3⟩ := out_lift o2
    cases q : keyD d1 with
    | none => rw [q] at hd; cases hd
    | some key =>
      rw [q] at hd
      cases hd
      have ek := keyD_is q
      have r1' : Rp C.X.K C.X.mg W2.as W2.G d1 x := Rp.ext e2 r1
      have ex : x = kV key := by
        rw [ek] at r1'
        cases key with
        | inl i => simp only [kD, Rp] at r1'; exact r1'
        | inr z => simp only [kD, Rp] at r1'; exact r1'
      refine ⟨h1, [(key, y)], by rw [ex]; rfl, by show 1 ≤ 15; decide, ?_⟩
      show Q (.ref p) (upd W2.H p (.dK [(key, y)]))
      have n0 : W.H p = none := np
      have e02 := (e0.trans e1).trans e2
      refine (show KEnd C .fresh W Q (.dct [(d1, d2)]) st2 from o3) (.ref p) (W2.new p (.dK [(key, y)])) (set_ext e02 n0) (set_ok k2 h2 h3) ⟨p, rfl, n0, h2, h3, .inl ⟨[(key, y)], upd_same, ?_⟩⟩
      simp only [RpK]
      exact ⟨key, y, [], rfl, ek, r2, rfl⟩
/-- a law over a head by facts, by its def's promise -/
theorem walk_ofP {l : PySem.W.OpenLaw} {n k : Nat} {q : Program} {loose : List Str} {XP : (Str → Option Value) → Heap → Prop} {YP : World → Heap → Prop} {d : DefRec} {x nm : Str} {Fl : Fx}
    (hn : l.most = some n) (hn2 : n ≤ sizeLine) (hdf : d.params.defaults = []) (hr : Room k callerA) (hnm : d.name = nm)
    (F : ∀ (w : World) (mg : Str → Option Value) (h : Heap), YP w h → h.Ns mainGlobals mg → ∃ K : PySem.W.Frag, K.In h ∧ ∀ base : Heap, Prm l.prog w K mg base k nm [x] .froz Fl)
    (hF : ∀ ns : List Int, ns.length ≤ n → ∃ st', Fl [scrD ns] [] = .ok (.bl true) st') :
    PySem.W.WalkO q loose XP YP l.row.toRowW d [] (fun f vs => PySem.call f vs) := by
  refine Att.attach_call hn hdf fun w s₀ s₁ mg mb fa o pm cd doc a vs ns G Y ho hd hcd hmg hobj hints hlen hg => ?_
  obtain ⟨K, KX, hP⟩ := F w mg _ Y G.T.g
  refine law_end KX G.T.g G.T.b G.T.builtins G.T.nolimit hg hobj hints (Nat.le_trans hlen hn2) fun base H hK hN hS e0 => ?_
  obtain ⟨f, fd, hm, hb, _, FG⟩ := hP base
  rw [hnm] at hmg
  cases hm.symm.trans hmg
  exact law_run FG hr e0 (hb s₁ [.ref a] KX rfl) hS (hF ns hlen)
end Sm


set_option Elab.async false
set_option linter.all false
set_option maxRecDepth 100000
set_option maxHeartbeats 1000000
/-! Pl1: plain tools: running the combinators. -/
namespace Sm
open PySem PySem.Spec L2
@[simp] theorem bnd_ok' {α β : Type} {m : M α} {f : α → M β} {st : Store} : bnd m f st = (match m st with | .ok a s' => f a s' | .exc c d s' => .exc c d s' | .stuck => .stuck) := rfl
theorem bnd_eq {α β : Type} {m : M α} {f : α → M β} {st st1 : Store} {a : α} (h : m st = .ok a st1) : bnd m f st = f a st1 := by simp [h]
theorem lcS_pure {α : Type} {g : Gx} {t : Tx} {m : Ex} {env : En} {st : Store} (enc : α → D) (p : α → Bool) (f : α → D) : ∀ (xs : List α), (∀ x ∈ xs, ∃ e1, g (enc x) env = some e1 ∧ t e1 st = .ok (p x) st ∧ (p x = true → m e1 st = .ok (f x) st)) →
    lcS g t m (xs.map enc) env st = .ok ((xs.filter p).map f) st
  | [], _ => rfl
  | x :: xs, h => by
    obtain ⟨e1, h1, h2, h3⟩ := h x List.mem_cons_self
    have ih := lcS_pure (g := g) (t := t) (m := m) (env := env) (st := st) enc p f xs fun y hy => h y (List.mem_cons_of_mem _ hy)
    rw [List.map_cons]
    unfold lcS
    rw [h1]
    show bnd (t e1) _ st = _
    rw [bnd_eq h2]
    cases q : p x with
    | true => rw [if_pos rfl, bnd_eq (h3 q), bnd_eq ih, List.filter_cons_of_pos q, List.map_cons]; rfl
    | false => rw [if_neg Bool.false_ne_true, ih, List.filter_cons_of_neg (by simp [q])]
theorem eLc_pure {α : Type} {vs : List Nat} {it : Lx} {g : Gx} {t : Tx} {m : Ex} {env : En} {st st1 : Store} (xs : List α) (enc : α → D) (p : α → Bool) (f : α → D) (hi : it env st = .ok (xs.map enc) st1) (hl : xs.length ≤ line)
    (h : ∀ x ∈ xs, ∃ e1, g (enc x) (env.clr vs) = some e1 ∧ t e1 st1 = .ok (p x) st1 ∧ (p x = true → m e1 st1 = .ok (f x) st1)) : eLc vs it g t m env st = .ok (.lst ((xs.filter p).map f)) st1 := by
  unfold eLc
  rw [bnd_eq hi, if_pos (by simpa using hl)]
  unfold quiet
  rw [bnd_eq (lcS_pure enc p f xs h)]
  rfl
/-- .. without a test -/
theorem eLc_map {α : Type} {vs : List Nat} {it : Lx} {g : Gx} {t : Tx} {m : Ex} {env : En} {st st1 : Store} (xs : List α) (enc : α → D) (f : α → D) (hi : it env st = .ok (xs.map enc) st1) (hl : xs.length ≤ line) (ht : ∀ e, t e st1 = .ok true st1)
    (h : ∀ x ∈ xs, ∃ e1, g (enc x) (env.clr vs) = some e1 ∧ m e1 st1 = .ok (f x) st1) : eLc vs it g t m env st = .ok (.lst (xs.map f)) st1 := by
  have := eLc_pure (vs := vs) (g := g) (t := t) (m := m) xs enc (fun _ => true) f hi hl fun x hx => let ⟨e1, h1, h2⟩ := h x hx; ⟨e1, h1, ht e1, fun _ => h2⟩
  rwa [List.filter_eq_self.mpr (by simp)] at this
end Sm


set_option Elab.async false
set_option linter.all false
set_option maxRecDepth 100000
set_option maxHeartbeats 1000000
/-! Pl2: plain tools: data. -/
namespace Sm
open PySem PySem.Spec L2
theorem enumD_map {α : Type} (f : α → D) : ∀ (xs : List α) (k : Nat), enumD k (xs.map f) = (xs.zipIdx k).map fun p => .tup [.int (p.2 : Nat), f p.1]
  | [], _ => rfl
  | x :: xs, k => by simp [enumD, enumD_map f xs (k + 1)]
theorem zipD_map {α β : Type} (f : α → D) (g : β → D) : ∀ (xs : List α) (ys : List β), zipD (xs.map f) (ys.map g) = (xs.zip ys).map fun p => .tup [f p.1, g p.2]
  | [], _ => rfl
  | _ :: _, [] => rfl
  | x :: xs, y :: ys => by
    have := zipD_map f g xs ys
    simp only [zipD] at this ⊢
    simp [this]
@[simp] theorem iEnumS_eq {m : Ex} {env : En} {st st1 : Store} {d : D} (h : m env st = .ok d st1) : iEnumS m env st = (match seqD d with | some xs => .ok (enumD 0 xs) st1 | none => .stuck) := by
  unfold iEnumS
  rw [bnd_eq h]
  cases seqD d <;> rfl
/-! ### shapes -/
@[simp] theorem shp_int {n i} : shp n (.int i) = true := by cases n <;> simp [shp]
@[simp] theorem shp_bl {n i} : shp n (.bl i) = true := by cases n <;> simp [shp]
@[simp] theorem shp_str {n i} : shp n (.str i) = true := by cases n <;> simp [shp]
@[simp] theorem shp_non {n} : shp n .non = true := by cases n <;> simp [shp]
@[simp] theorem shp_tup {n : Nat} {xs : List D} : shp (n + 1) (.tup xs) = xs.all (shp n) := by simp [shp, shpL_all]
@[simp] theorem shp_lst {n : Nat} {xs : List D} : shp (n + 1) (.lst xs) = xs.all (shp n) := by simp [shp, shpL_all]
@[simp] theorem shp_tup60 {xs : List D} : shp 60 (.tup xs) = xs.all (shp 59) := shp_tup (n := 59)
@[simp] theorem shp_tup59 {xs : List D} : shp 59 (.tup xs) = xs.all (shp 58) := shp_tup (n := 58)
@[simp] theorem shp_tup58 {xs : List D} : shp 58 (.tup xs) = xs.all (shp 57) := shp_tup (n := 57)
@[simp] theorem shp_lst60 {xs : List D} : shp 60 (.lst xs) = xs.all (shp 59) := shp_lst (n := 59)
@[simp] theorem shp_lst59 {xs : List D} : shp 59 (.lst xs) = xs.all (shp 58) := shp_lst (n := 58)
@[simp] theorem shp_lst58 {xs : List D} : shp 58 (.lst xs) = xs.all (shp 57) := shp_lst (n := 57)
@[simp] theorem dat_int {n i} : dat n (.int i) = true := by cases n <;> simp [dat]
@[simp] theorem dat_bl {n i} : dat n (.bl i) = true := by cases n <;> simp [dat]
@[simp] theorem dat_str {n i} : dat n (.str i) = true := by cases n <;> simp [dat]
@[simp] theorem dat_non {n} : dat n .non = true := by cases n <;> simp [dat]
@[simp] theorem dat_tup {n : Nat} {xs : List D} : dat (n + 1) (.tup xs) = xs.all (dat n) := by simp [dat, datL_all]
@[simp] theorem dat_lst {n : Nat} {xs : List D} : dat (n + 1) (.lst xs) = xs.all (dat n) := by simp [dat, datL_all]
@[simp] theorem dat_tup60 {xs : List D} : dat 60 (.tup xs) = xs.all (dat 59) := dat_tup (n := 59)
@[simp] theorem dat_tup59 {xs : List D} : dat 59 (.tup xs) = xs.all (dat 58) := dat_tup (n := 58)
@[simp] theorem dat_lst60 {xs : List D} : dat 60 (.lst xs) = xs.all (dat 59) := dat_lst (n := 59)
@[simp] theorem dat_lst59 {xs : List D} : dat 59 (.lst xs) = xs.all (dat 58) := dat_lst (n := 58)
mutual
theorem dat_up : ∀ (n : Nat) (d : D), dat n d = true → dat (n + 1) d = true
  | _, .non, _ => by simp
  | _, .bl _, _ => by simp
  | _, .int _, _ => by simp
  | _, .str _, _ => by simp
  | 0, .tup xs, h => by simp [dat] at h
  | 0, .lst xs, h => by simp [dat] at h
  | 0, .dct xs, h => by simp [dat] at h
  | n + 1, .tup xs, h => by simp only [dat] at h ⊢; exact datL_up n xs h
  | n + 1, .lst xs, h => by simp only [dat] at h ⊢; exact datL_up n xs h
  | n + 1, .dct xs, h => by simp only [dat] at h ⊢; exact datK_up n xs h
  | n, .obj _, h => by simp [dat] at h
  | n, .glo _, h => by simp [dat] at h
  | n, .scr _, h => by simp [dat] at h
theorem datL_up : ∀ (n : Nat) (ds : List D), datL n ds = true → datL (n + 1) ds = true
  | _, [], _ => by simp [datL]
  | n, d :: ds, h => by
    simp only [datL, Bool.and_eq_true] at h ⊢
    exact ⟨dat_up n d h.1, datL_up n ds h.2⟩
theorem datK_up : ∀ (n : Nat) (ds : List (D × D)), datK n ds = true → datK (n + 1) ds = true
  | _, [], _ => by simp [datK]
  | n, (k, d) :: ds, h => by
    simp only [datK, Bool.and_eq_true] at h ⊢
    exact ⟨⟨dat_up n k h.1.1, dat_up n d h.1.2⟩, datK_up n ds h.2⟩
end
theorem dat_le {n m : Nat} {d : D} (h : dat n d = true) (hm : n ≤ m) : dat m d = true := by
  induction m with
  | zero =>
    have : n = 0 := by omega
    subst this; exact h
  | succ m ih =>
    by_cases q : n ≤ m
    · exact dat_up m d (ih q)
    · have : n = m + 1 := by omega
      subst this; exact h
/-! ### what isinstance tells -/
def D.isInt : D → Bool
  | .int _ => true
  | _ => false
def D.isTup : D → Bool
  | .tup _ => true
  | _ => false
def D.isStr : D → Bool
  | .str _ => true
  | _ => false
def D.isBl : D → Bool
  | .bl _ => true
  | _ => false
def D.isLst : D → Bool
  | .lst _ => true
  | _ => false
theorem isa_T {d : D} (h : dat 60 d = true) : (d.py.isInt && !d.py.isBool) = d.isInt ∧ d.py.isTuple = d.isTup ∧ d.py.isStr = d.isStr ∧ d.py.isBool = d.isBl ∧ d.py.isList = d.isLst := by
  cases d with
  | obj i => simp [dat] at h
  | glo i => simp [dat] at h
  | scr i => simp [dat] at h
  | _ => simp only [D.py]; exact ⟨rfl, rfl, rfl, rfl, rfl⟩
/-! ### == -/
mutual
/-- without truth values: == tells identity -/
@[simp] def nb : D → Bool
  | .bl _ => false
  | .tup xs => nbL xs
  | .lst xs => nbL xs
  | _ => true
def nbL : List D → Bool
  | [] => true
  | x :: xs => nb x && nbL xs
end
mutual
theorem eqv_self : ∀ (n : Nat) (a : D), shp n a = true → PyData.eqv a.py a.py = true
  | _, .non, _ => by simp [D.py, PyData.eqv]
  | _, .bl _, _ => by simp [D.py, PyData.eqv]
  | _, .int _, _ => by simp [D.py, PyData.eqv]
  | _, .str _, _ => by simp [D.py, PyData.eqv]
  | 0, .tup xs, h => by simp [shp] at h
  | 0, .lst xs, h => by simp [shp] at h
  | n + 1, .tup xs, h => by simp only [shp] at h; simp only [D.py, PyData.eqv]; exact eqvL_self n xs h
  | n + 1, .lst xs, h => by simp only [shp] at h; simp only [D.py, PyData.eqv]; exact eqvL_self n xs h
  | n, .dct _, h => by simp [shp] at h
  | n, .obj _, h => by simp [shp] at h
  | n, .glo _, h => by simp [shp] at h
  | n, .scr _, h => by simp [shp] at h
theorem eqvL_self : ∀ (n : Nat) (a : List D), shpL n a = true → PyData.eqvAll (pyL a) (pyL a) = true
  | _, [], _ => by simp [pyL, PyData.eqvAll]
  | n, d :: ds, h => by
    simp only [shpL, Bool.and_eq_true] at h
    simp only [pyL, PyData.eqvAll, Bool.and_eq_true]
    exact ⟨eqv_self n d h.1, eqvL_self n ds h.2⟩
end
mutual
theorem eqv_eq : ∀ (n m : Nat) (a b : D), shp n a = true → shp m b = true → nb a = true → nb b = true → PyData.eqv a.py b.py = true → a = b
  | n, m, .non, b, _, hb, _, nb', h => by
    cases b with
    | non => rfl
    | obj i => simp [shp] at hb
    | glo i => simp [shp] at hb
    | scr i => simp [shp] at hb
    | _ => simp [D.py, PyData.eqv] at h
  | n, m, .bl x, b, _, _, na, _, _ => by simp [nb] at na
  | n, m, .int x, b, _, hb, _, nb', h => by
    cases b with
    | int y => simp [D.py, PyData.eqv] at h; rw [h]
    | bl y => simp [nb] at nb'
    | _ => simp [D.py, PyData.eqv] at h
  | n, m, .str x, b, _, hb, _, nb', h => by
    cases b with
    | str y => simp [D.py, PyData.eqv] at h; rw [h]
    | _ => simp [D.py, PyData.eqv] at h
  | n, m, .tup xs, b, ha, hb, na, nb', h => by
    cases b with
    | tup ys =>
      cases n with
      | zero => simp [shp] at ha
      | succ n =>
        cases m with
        | zero => simp [shp] at hb
        | succ m =>
          simp only [shp] at ha hb
          simp only [nb] at na nb'
          simp only [D.py, PyData.eqv] at h
          rw [eqvL_eq n m xs ys ha hb na nb' h]
    | _ => simp [D.py, PyData.eqv] at h
  | n, m, .lst xs, b, ha, hb, na, nb', h => by
    cases b with
    | lst ys =>
      cases n with
      | zero => simp [shp] at ha
      | succ n =>
        cases m with
        | zero => simp [shp] at hb
        | succ m =>
          simp only [shp] at ha hb
          simp only [nb] at na nb'
          simp only [D.py, PyData.eqv] at h
          rw [eqvL_eq n m xs ys ha hb na nb' h]
    | _ => simp [D.py, PyData.eqv] at h
  | n, m, .dct _, b, ha, _, _, _, _ => by simp [shp] at ha
  | n, m, .obj _, b, ha, _, _, _, _ => by simp [shp] at ha
  | n, m, .glo _, b, ha, _, _, _, _ => by simp [shp] at ha
  | n, m, .scr _, b, ha, _, _, _, _ => by simp [shp] at ha
theorem eqvL_eq : ∀ (n m : Nat) (a b : List D), shpL n a = true → shpL m b = true → nbL a = true → nbL b = true → PyData.eqvAll (pyL a) (pyL b) = true → a = b
  | n, m, [], b, _, _, _, _, h => by
    cases b with
    | nil => rfl
    | cons y ys => simp [pyL, PyData.eqvAll] at h
  | n, m, x :: xs, b, ha, hb, na, nb', h => by
    cases b with
    | nil => simp [pyL, PyData.eqvAll] at h
    | cons y ys =>
      simp only [shpL, nbL, Bool.and_eq_true] at ha hb na nb'
      simp only [pyL, PyData.eqvAll, Bool.and_eq_true] at h
      rw [eqv_eq n m x y ha.1 hb.1 na.1 nb'.1 h.1, eqvL_eq n m xs ys ha.2 hb.2 na.2 nb'.2 h.2]
end
theorem eqv_iff {a b : D} (ha : shp 60 a = true) (hb : shp 60 b = true) (na : nb a = true) (nb' : nb b = true) : D.eqv a b = true ↔ a = b :=
  ⟨fun h => eqv_eq 60 60 a b ha hb na nb' h, fun h => by subst h; exact eqv_self 60 a ha⟩
@[simp] theorem eqv_int {i j : Int} : D.eqv (.int i) (.int j) = decide (i = j) := by
  simp only [D.eqv, D.py, PyData.eqv]
  rw [Bool.eq_iff_iff]; simp
@[simp] theorem eqv_str {i j : Str} : D.eqv (.str i) (.str j) = decide (i = j) := by
  simp only [D.eqv, D.py, PyData.eqv]
  rw [Bool.eq_iff_iff]; simp
@[simp] theorem eqv_non_int {j : Int} : D.eqv .non (.int j) = false := by simp [D.eqv, D.py, PyData.eqv]
@[simp] theorem eqv_non : D.eqv .non .non = true := by simp [D.eqv, D.py, PyData.eqv]
@[simp] theorem eqv_int_non {j : Int} : D.eqv (.int j) .non = false := by simp [D.eqv, D.py, PyData.eqv]
@[simp] theorem eqv_bl {i j : Bool} : D.eqv (.bl i) (.bl j) = decide (i = j) := by
  simp only [D.eqv, D.py, PyData.eqv]
  rw [Bool.eq_iff_iff]; simp
/-! ### < of ints -/
@[simp] theorem lt_int' {i j : Int} : D.lt (.int i) (.int j) = decide (i < j) := by simp [D.lt, D.py, PySem.W.dataLt_int]
@[simp] theorem ordOk_int {i j : Int} : ordOk (.int i) (.int j) = true := by simp [ordOk, D.py, PySem.W.alike]
@[simp] theorem ltD_int {i j : Int} : ltD (.int i) (.int j) = some (.bl (decide (i < j))) := by simp [ltD]
@[simp] theorem gtD_int {i j : Int} : gtD (.int i) (.int j) = some (.bl (decide (j < i))) := by simp [gtD]
@[simp] theorem leD_int {i j : Int} : leD (.int i) (.int j) = some (.bl (decide (i ≤ j))) := by
  simp only [leD, ordOk_int, lt_int']
  congr 2
  rw [Bool.eq_iff_iff]; simp
@[simp] theorem geD_int {i j : Int} : geD (.int i) (.int j) = some (.bl (decide (j ≤ i))) := by
  simp only [geD, ordOk_int, lt_int']
  congr 2
  rw [Bool.eq_iff_iff]; simp
@[simp] theorem intsD_ints : ∀ ns : List Int, intsD (ns.map D.int) = some ns
  | [] => rfl
  | n :: ns => by simp [intsD, intsD_ints ns]
/-! ### tuples of ints -/
def tI (l : List Int) : D := .tup (l.map .int)
end Sm


set_option Elab.async false
set_option linter.all false
set_option maxRecDepth 100000
set_option maxHeartbeats 1000000
/-! Pl3: repr tells data apart. -/
namespace Sm
open PySem PySem.Spec L2
/-- an int's signs -/
def txI (i : Int) : List Nat := (toString i).toList.map Char.toNat
mutual
/-- the signs of repr -/
def tx : D → List Nat
  | .non => [78, 111, 110, 101]
  | .bl true => [84, 114, 117, 101]
  | .bl false => [70, 97, 108, 115, 101]
  | .int i => txI i
  | .str x => 39 :: (x.cps.toList ++ [39])
  | .tup [] => [40, 41]
  | .tup [x] => 40 :: (tx x ++ [44, 41])
  | .tup (x :: y :: r) => 40 :: (tx x ++ txW 41 (y :: r))
  | .lst [] => [91, 93]
  | .lst (x :: r) => 91 :: (tx x ++ txW 93 r)
  | .dct [] => [123, 125]
  | .dct ((k, v) :: r) => 123 :: (tx k ++ 58 :: 32 :: (tx v ++ txX r))
  | _ => []
def txW (c : Nat) : List D → List Nat
  | [] => [c]
  | x :: r => 44 :: 32 :: (tx x ++ txW c r)
def txX : List (D × D) → List Nat
  | [] => [125]
  | (k, v) :: r => 44 :: 32 :: (tx k ++ 58 :: 32 :: (tx v ++ txX r))
end
mutual
/-- texts without quotes, signs that are written as they are -/
@[simp] def wrd : D → Bool
  | .str x => decide ((reprText x).cps.toList = 39 :: (x.cps.toList ++ [39])) && !x.cps.toList.contains 39
  | .tup xs => wrdL xs
  | .lst xs => wrdL xs
  | .dct kvs => wrdK kvs
  | .non => true
  | .bl _ => true
  | .int _ => true
  | _ => false
def wrdL : List D → Bool
  | [] => true
  | x :: xs => wrd x && wrdL xs
def wrdK : List (D × D) → Bool
  | [] => true
  | (k, v) :: r => wrd k && wrd v && wrdK r
end
/-! ### splitting -/
theorem split_at {S : Nat → Prop} : ∀ {l1 l2 r1 r2 : List Nat}, (∀ c ∈ l1, S c) → (∀ c ∈ l2, S c) → (∀ c r, r1 = c :: r → ¬ S c) → (∀ c r, r2 = c :: r → ¬ S c) → l1 ++ r1 = l2 ++ r2 → l1 = l2 ∧ r1 = r2
  | [], [], r1, r2, _, _, _, _, h => ⟨rfl, h⟩
  | [], c :: l2, r1, r2, _, h2, h3, _, h => by
    have h : r1 = c :: (l2 ++ r2) := h
    exact absurd (h2 c List.mem_cons_self) (h3 c _ h)
  | c :: l1, [], r1, r2, h1, _, _, h4, h => by
    have h : c :: (l1 ++ r1) = r2 := h
    exact absurd (h1 c List.mem_cons_self) (h4 c _ h.symm)
  | c :: l1, d :: l2, r1, r2, h1, h2, h3, h4, h => by
    have h : c :: (l1 ++ r1) = d :: (l2 ++ r2) := h
    injection h with e h
    obtain ⟨e1, e2⟩ := split_at (fun x hx => h1 x (List.mem_cons_of_mem _ hx)) (fun x hx => h2 x (List.mem_cons_of_mem _ hx)) h3 h4 h
    exact ⟨by rw [e, e1], e2⟩
def isDg (c : Nat) : Prop := c = 45 ∨ (48 ≤ c ∧ c ≤ 57)
theorem txI_dg (i : Int) : ∀ c ∈ txI i, isDg c := fun c hc => by
  obtain ⟨ch, h1, e⟩ := List.mem_map.mp hc
  rcases PyProof.Rows.int_sign i ch h1 with h | h
  · have := PyProof.Rows.digit_range h
    rw [e] at this
    exact .inr this
  · rw [h] at e
    exact .inl (by rw [← e]; decide)
theorem txI_inj {i j : Int} (h : txI i = txI j) : i = j := by
  have hl : (toString i).toList = (toString j).toList := by
    have inj : ∀ (a b : List Char), a.map Char.toNat = b.map Char.toNat → a = b := by
      intro a
      induction a with
      | nil => intro b h; cases b with
        | nil => rfl
        | cons => cases h
      | cons x a ih =>
        intro b h
        cases b with
        | nil => cases h
        | cons y b =>
          simp only [List.map_cons, List.cons.injEq] at h
          rw [Char.toNat_inj.mp h.1, ih b h.2]
    exact inj _ _ h
  have nat : ∀ {a b : Nat}, Nat.toDigits 10 a = Nat.toDigits 10 b → a = b := fun {a b} h => by
    have h1 := Nat.ofDigitChars_toDigits (b := 10) (n := a) (by decide) (by decide)
    have h2 := Nat.ofDigitChars_toDigits (b := 10) (n := b) (by decide) (by decide)
    rw [h] at h1
    exact h1.symm.trans h2
  have nod : ∀ {a : Nat} {l : List Char}, Nat.toDigits 10 a ≠ '-' :: l := fun {a l} h => by
    have := Nat.isDigit_of_mem_toDigits (b := 10) (n := a) (c := '-') (by decide) (by decide) (by rw [h]; exact List.mem_cons_self)
    exact absurd this (by decide)
  have rep : ∀ k : Int, (toString k).toList = if 0 ≤ k then Nat.toDigits 10 k.toNat else '-' :: Nat.toDigits 10 (-k).toNat := fun k => by
    rw [Int.toString_eq_repr, Int.repr_eq_if]
    split
    · rw [Nat.toList_repr]
    · rw [String.toList_append, Nat.toList_repr]; rfl
  rw [rep i, rep j] at hl
  split at hl
  · split at hl
    · have := nat hl; omega
    · exact absurd hl nod
  · split at hl
    · exact absurd hl.symm nod
    · injection hl with _ hl
      have := nat hl; omega
/-- what may follow -/
def Dlm (r : List Nat) : Prop := ∀ c r', r = c :: r' → c = 44 ∨ c = 41 ∨ c = 93 ∨ c = 125 ∨ c = 58
theorem dlm_W {c : Nat} (hc : c = 41 ∨ c = 93) (xs : List D) (r : List Nat) : Dlm (txW c xs ++ r) := fun d r' h => by
  cases xs with
  | nil =>
    simp only [txW, List.cons_append, List.nil_append] at h
    injection h with e _
    subst e
    rcases hc with z | z
    · exact .inr (.inl z)
    · exact .inr (.inr (.inl z))
  | cons x xs =>
    simp only [txW, List.cons_append] at h
    injection h with e _
    exact .inl e.symm
theorem dlm_X (xs : List (D × D)) (r : List Nat) : Dlm (txX xs ++ r) := fun d r' h => by
  cases xs with
  | nil =>
    simp only [txX, List.cons_append, List.nil_append] at h
    injection h with e _
    exact .inr (.inr (.inr (.inl e.symm)))
  | cons x xs =>
    obtain ⟨k, v⟩ := x
    simp only [txX, List.cons_append] at h
    injection h with e _
    exact .inl e.symm
/-- the first sign tells the kind -/
def kd : D → Nat
  | .non => 0
  | .bl true => 1
  | .bl false => 2
  | .int _ => 3
  | .str _ => 4
  | .tup _ => 5
  | .lst _ => 6
  | .dct _ => 7
  | _ => 8
def fs (c : Nat) : Nat := if c = 78 then 0 else if c = 84 then 1 else if c = 70 then 2 else if c = 39 then 4 else if c = 40 then 5 else if c = 91 then 6 else if c = 123 then 7 else if c = 45 ∨ (48 ≤ c ∧ c ≤ 57) then 3 else 9
theorem txI_ne (i : Int) : txI i ≠ [] := fun h => by
  have e : (toString i).toList = [] := List.map_eq_nil_iff.mp h
  have rep : (toString i).toList = if 0 ≤ i then Nat.toDigits 10 i.toNat else '-' :: Nat.toDigits 10 (-i).toNat := by
    rw [Int.toString_eq_repr, Int.repr_eq_if]
    split
    · rw [Nat.toList_repr]
    · rw [String.toList_append, Nat.toList_repr]; rfl
  rw [rep] at e
  split at e
  · have h1 := Nat.length_toDigits_pos (b := 10) (n := i.toNat)
    rw [e] at h1
    exact absurd h1 (by decide)
  · cases e
theorem tx_head (d : D) (h : wrd d = true) : ∃ c r, tx d = c :: r ∧ fs c = kd d := by
  cases d with
  | non => exact ⟨_, _, by simp only [tx] <;> rfl, rfl⟩
  | bl b => cases b <;> exact ⟨_, _, by simp only [tx] <;> rfl, rfl⟩
  | int i =>
    simp only [tx]
    cases q : txI i with
    | nil => exact absurd q (txI_ne i)
    | cons c r =>
      refine ⟨c, r, rfl, ?_⟩
      have := txI_dg i c (by rw [q]; exact List.mem_cons_self)
      unfold isDg at this
      unfold fs kd
      rw [if_neg (by omega), if_neg (by omega), if_neg (by omega), if_neg (by omega), if_neg (by omega), if_neg (by omega), if_neg (by omega), if_pos this]
  | str x => exact ⟨_, _, by simp only [tx] <;> rfl, rfl⟩
  | tup xs =>
    match xs with
    | [] => exact ⟨_, _, by simp only [tx] <;> rfl, rfl⟩
    | [x] => exact ⟨_, _, by simp only [tx] <;> rfl, rfl⟩
    | x :: y :: r => exact ⟨_, _, by simp only [tx] <;> rfl, rfl⟩
  | lst xs =>
    match xs with
    | [] => exact ⟨_, _, by simp only [tx] <;> rfl, rfl⟩
    | x :: r => exact ⟨_, _, by simp only [tx] <;> rfl, rfl⟩
  | dct xs =>
    match xs with
    | [] => exact ⟨_, _, by simp only [tx] <;> rfl, rfl⟩
    | (k, v) :: r => exact ⟨_, _, by simp only [tx] <;> rfl, rfl⟩
  | _ => simp [wrd] at h
theorem kd_eq {a b : D} {r1 r2 : List Nat} (ha : wrd a = true) (hb : wrd b = true) (h : tx a ++ r1 = tx b ++ r2) : kd a = kd b := by
  obtain ⟨c, r, e1, k1⟩ := tx_head a ha
  obtain ⟨c', r', e2, k2⟩ := tx_head b hb
  rw [e1, e2] at h
  injection h with e _
  rw [← k1, ← k2, e]
/-- no thing's text begins with a delimiter -/
theorem tx_nd {d : D} {c : Nat} {r r' : List Nat} (h : wrd d = true) (hc : c = 44 ∨ c = 41 ∨ c = 93 ∨ c = 125 ∨ c = 58 ∨ c = 32) (e : tx d ++ r = c :: r') : False := by
  obtain ⟨x, r2, e1, k1⟩ := tx_head d h
  rw [e1] at e
  injection e with e _
  subst e
  have h9 : fs x = 9 := by
    rcases hc with z | z | z | z | z | z <;> (rw [z]; rfl)
  rw [h9] at k1
  cases d with
  | bl b => cases b <;> cases k1
  | _ => cases k1

theorem app3 {a b c : List Nat} {x : Nat} : (x :: (a ++ b)) ++ c = x :: (a ++ (b ++ c)) := by simp
theorem dlm_c {c : Nat} {r : List Nat} (h : c = 44 ∨ c = 41 ∨ c = 93 ∨ c = 125 ∨ c = 58) : Dlm (c :: r) := fun d r' e => by
  injection e with e _
  rw [← e]; exact h
mutual
theorem tx_inj : ∀ (a b : D) (r1 r2 : List Nat), wrd a = true → wrd b = true → Dlm r1 → Dlm r2 → tx a ++ r1 = tx b ++ r2 → a = b ∧ r1 = r2
  | .non, b, r1, r2, ha, hb, d1, d2, h => by
    have q := kd_eq ha hb h
    cases b with
    | non => simp only [tx] at h; exact ⟨rfl, List.append_cancel_left h⟩
    | bl i => cases i <;> cases q
    | _ => cases q
  | .bl true, b, r1, r2, ha, hb, d1, d2, h => by
    have q := kd_eq ha hb h
    cases b with
    | bl i =>
      cases i with
      | true => simp only [tx] at h; exact ⟨rfl, List.append_cancel_left h⟩
      | false => cases q
    | _ => cases q
  | .bl false, b, r1, r2, ha, hb, d1, d2, h => by
    have q := kd_eq ha hb h
    cases b with
    | bl i =>
      cases i with
      | false => simp only [tx] at h; exact ⟨rfl, List.append_cancel_left h⟩
      | true => cases q
    | _ => cases q
  | .int i, b, r1, r2, ha, hb, d1, d2, h => by
    have q := kd_eq ha hb h
    cases b with
    | bl i => cases i <;> cases q
    | int j =>
      simp only [tx] at h
      have nd : ∀ {r : List Nat}, Dlm r → ∀ c r', r = c :: r' → ¬ isDg c := fun {r} d c r' e z => by
        have := d c r' e
        unfold isDg at z
        omega
      obtain ⟨e1, e2⟩ := split_at (S := isDg) (txI_dg i) (txI_dg j) (nd d1) (nd d2) h
      exact ⟨by rw [txI_inj e1], e2⟩
    | _ => cases q
  | .str x, b, r1, r2, ha, hb, d1, d2, h => by
    have q := kd_eq ha hb h
    cases b with
    | bl i => cases i <;> cases q
    | str y =>
      simp only [tx] at h
      rw [app3, app3] at h
      injection h with _ h
      have no : ∀ {z : Str}, wrd (.str z) = true → ∀ c ∈ z.cps.toList, c ≠ 39 := fun {z} hz c hc e => by
        simp only [wrd, Bool.and_eq_true, Bool.not_eq_true'] at hz
        have := hz.2
        rw [List.contains_eq_mem, decide_eq_false_iff_not] at this
        exact this (e ▸ hc)
      have nd : ∀ (r : List Nat) c r', [39] ++ r = c :: r' → ¬ (c ≠ 39) := fun r c r' e z => by
        injection e with e _
        exact z e.symm
      obtain ⟨e1, e2⟩ := split_at (S := fun c => c ≠ 39) (no ha) (no hb) (nd r1) (nd r2) h
      have e3 : x = y := by
        cases x; cases y
        simp only at e1
        exact congrArg Str.mk (Array.toList_inj.mp e1)
      exact ⟨by rw [e3], List.append_cancel_left e2⟩
    | _ => cases q
  | .tup [], b, r1, r2, ha, hb, d1, d2, h => by
    have q := kd_eq ha hb h
    cases b with
    | bl i => cases i <;> cases q
    | tup ys =>
      match ys with
      | [] => simp only [tx] at h; exact ⟨rfl, List.append_cancel_left h⟩
      | [y] =>
        simp only [tx] at h
        rw [app3] at h
        injection h with _ h
        simp only [wrd, wrdL, Bool.and_true] at hb
        exact (tx_nd (r' := r1) hb (.inr (.inl rfl)) h.symm).elim
      | y :: z :: r =>
        simp only [tx] at h
        rw [app3] at h
        injection h with _ h
        simp only [wrd, wrdL, Bool.and_eq_true] at hb
        exact (tx_nd (r' := r1) hb.1 (.inr (.inl rfl)) h.symm).elim
    | _ => cases q
  | .tup [x], b, r1, r2, ha, hb, d1, d2, h => by
    have q := kd_eq ha hb h
    simp only [wrd, wrdL, Bool.and_true] at ha
    cases b with
    | bl i => cases i <;> cases q
    | tup ys =>
      match ys with
      | [] =>
        simp only [tx] at h
        rw [app3] at h
        injection h with _ h
        exact (tx_nd (r' := r2) ha (.inr (.inl rfl)) h).elim
      | [y] =>
        simp only [tx] at h
        rw [app3, app3] at h
        injection h with _ h
        simp only [wrd, wrdL, Bool.and_true] at hb
        obtain ⟨e1, e2⟩ := tx_inj x y ([44, 41] ++ r1) ([44, 41] ++ r2) ha hb (dlm_c (.inl rfl)) (dlm_c (.inl rfl)) h
        exact ⟨by rw [e1], List.append_cancel_left e2⟩
      | y :: z :: r =>
        simp only [tx] at h
        rw [app3, app3] at h
        injection h with _ h
        simp only [wrd, wrdL, Bool.and_eq_true] at hb
        obtain ⟨e1, e2⟩ := tx_inj x y _ _ ha hb.1 (dlm_c (.inl rfl)) (dlm_W (.inl rfl) _ _) h
        simp only [txW, List.cons_append] at e2
        injection e2 with _ e2
        injection e2 with e2 _
        cases e2
    | _ => cases q
  | .tup (x :: y :: xs), b, r1, r2, ha, hb, d1, d2, h => by
    have q := kd_eq ha hb h
    have ha' := ha
    simp only [wrd, wrdL, Bool.and_eq_true] at ha
    cases b with
    | bl i => cases i <;> cases q
    | tup ys =>
      match ys with
      | [] =>
        simp only [tx] at h
        rw [app3] at h
        injection h with _ h
        exact (tx_nd (r' := r2) ha.1 (.inr (.inl rfl)) h).elim
      | [y'] =>
        simp only [tx] at h
        rw [app3, app3] at h
        injection h with _ h
        simp only [wrd, wrdL, Bool.and_true] at hb
        obtain ⟨e1, e2⟩ := tx_inj x y' _ _ ha.1 hb (dlm_W (.inl rfl) _ _) (dlm_c (.inl rfl)) h
        simp only [txW, List.cons_append] at e2
        injection e2 with _ e2
        injection e2 with e2 _
        cases e2
      | x' :: y' :: ys =>
        simp only [tx] at h
        rw [app3, app3] at h
        injection h with _ h
        have hb' := hb
        simp only [wrd, wrdL, Bool.and_eq_true] at hb
        obtain ⟨e1, e2⟩ := tx_inj x x' _ _ ha.1 hb.1 (dlm_W (.inl rfl) _ _) (dlm_W (.inl rfl) _ _) h
        obtain ⟨e3, e4⟩ := txW_inj 41 (y :: xs) (y' :: ys) r1 r2 (.inl rfl) (by simp only [wrdL, Bool.and_eq_true]; exact ha.2) (by simp only [wrdL, Bool.and_eq_true]; exact hb.2) d1 d2 e2
        exact ⟨by rw [e1, e3], e4⟩
    | _ => cases q
  | .lst [], b, r1, r2, ha, hb, d1, d2, h => by
    have q := kd_eq ha hb h
    cases b with
    | bl i => cases i <;> cases q
    | lst ys =>
      match ys with
      | [] => simp only [tx] at h; exact ⟨rfl, List.append_cancel_left h⟩
      | y :: r =>
        simp only [tx] at h
        rw [app3] at h
        injection h with _ h
        simp only [wrd, wrdL, Bool.and_eq_true] at hb
        exact (tx_nd (r' := r1) hb.1 (.inr (.inr (.inl rfl))) h.symm).elim
    | _ => cases q
  | .lst (x :: xs), b, r1, r2, ha, hb, d1, d2, h => by
    have q := kd_eq ha hb h
    simp only [wrd, wrdL, Bool.and_eq_true] at ha
    cases b with
    | bl i => cases i <;> cases q
    | lst ys =>
      match ys with
      | [] =>
        simp only [tx] at h
        rw [app3] at h
        injection h with _ h
        exact (tx_nd (r' := r2) ha.1 (.inr (.inr (.inl rfl))) h).elim
      | y :: ys =>
        simp only [tx] at h
        rw [app3, app3] at h
        injection h with _ h
        simp only [wrd, wrdL, Bool.and_eq_true] at hb
        obtain ⟨e1, e2⟩ := tx_inj x y _ _ ha.1 hb.1 (dlm_W (.inr rfl) _ _) (dlm_W (.inr rfl) _ _) h
        obtain ⟨e3, e4⟩ := txW_inj 93 xs ys r1 r2 (.inr rfl) ha.2 hb.2 d1 d2 e2
        exact ⟨by rw [e1, e3], e4⟩
    | _ => cases q
  | .dct [], b, r1, r2, ha, hb, d1, d2, h => by
    have q := kd_eq ha hb h
    cases b with
    | bl i => cases i <;> cases q
    | dct ys =>
      match ys with
      | [] => simp only [tx] at h; exact ⟨rfl, List.append_cancel_left h⟩
      | (k, v) :: r =>
        simp only [tx] at h
        rw [app3] at h
        injection h with _ h
        simp only [wrd, wrdK, Bool.and_eq_true] at hb
        exact (tx_nd (r' := r1) hb.1.1 (.inr (.inr (.inr (.inl rfl)))) h.symm).elim
    | _ => cases q
  | .dct ((k, v) :: xs), b, r1, r2, ha, hb, d1, d2, h => by
    have q := kd_eq ha hb h
    simp only [wrd, wrdK, Bool.and_eq_true] at ha
    cases b with
    | bl i => cases i <;> cases q
    | dct ys =>
      match ys with
      | [] =>
        simp only [tx] at h
        rw [app3] at h
        injection h with _ h
        exact (tx_nd (r' := r2) ha.1.1 (.inr (.inr (.inr (.inl rfl)))) h).elim
      | (k', v') :: ys =>
        simp only [tx] at h
        rw [app3, app3] at h
        injection h with _ h
        simp only [wrd, wrdK, Bool.and_eq_true] at hb
        obtain ⟨e1, e2⟩ := tx_inj k k' (58 :: 32 :: (tx v ++ (txX xs ++ r1))) (58 :: 32 :: (tx v' ++ (txX ys ++ r2))) ha.1.1 hb.1.1 (dlm_c (.inr (.inr (.inr (.inr rfl))))) (dlm_c (.inr (.inr (.inr (.inr rfl))))) (by simpa only [List.cons_append, List.append_assoc] using h)
        injection e2 with _ e2
        injection e2 with _ e2
        obtain ⟨e3, e4⟩ := tx_inj v v' _ _ ha.1.2 hb.1.2 (dlm_X _ _) (dlm_X _ _) e2
        obtain ⟨e5, e6⟩ := txX_inj xs ys r1 r2 ha.2 hb.2 d1 d2 e4
        exact ⟨by rw [e1, e3, e5], e6⟩
    | _ => cases q
  | .obj _, b, r1, r2, ha, _, _, _, _ => by simp [wrd] at ha
  | .glo _, b, r1, r2, ha, _, _, _, _ => by simp [wrd] at ha
  | .scr _, b, r1, r2, ha, _, _, _, _ => by simp [wrd] at ha
theorem txW_inj : ∀ (c : Nat) (a b : List D) (r1 r2 : List Nat), (c = 41 ∨ c = 93) → wrdL a = true → wrdL b = true → Dlm r1 → Dlm r2 → txW c a ++ r1 = txW c b ++ r2 → a = b ∧ r1 = r2
  | c, [], b, r1, r2, hc, ha, hb, d1, d2, h => by
    cases b with
    | nil => simp only [txW] at h; exact ⟨rfl, List.append_cancel_left h⟩
    | cons y ys =>
      simp only [txW, List.cons_append, List.nil_append] at h
      injection h with e _
      omega
  | c, x :: xs, b, r1, r2, hc, ha, hb, d1, d2, h => by
    cases b with
    | nil =>
      simp only [txW, List.cons_append, List.nil_append] at h
      injection h with e _
      omega
    | cons y ys =>
      simp only [wrdL, Bool.and_eq_true] at ha hb
      simp only [txW, List.cons_append, List.append_assoc, List.cons.injEq, true_and] at h
      obtain ⟨e1, e2⟩ := tx_inj x y _ _ ha.1 hb.1 (dlm_W hc _ _) (dlm_W hc _ _) h
      obtain ⟨e3, e4⟩ := txW_inj c xs ys r1 r2 hc ha.2 hb.2 d1 d2 e2
      exact ⟨by rw [e1, e3], e4⟩
theorem txX_inj : ∀ (a b : List (D × D)) (r1 r2 : List Nat), wrdK a = true → wrdK b = true → Dlm r1 → Dlm r2 → txX a ++ r1 = txX b ++ r2 → a = b ∧ r1 = r2
  | [], b, r1, r2, ha, hb, d1, d2, h => by
    cases b with
    | nil => simp only [txX] at h; exact ⟨rfl, List.append_cancel_left h⟩
    | cons y ys =>
      obtain ⟨k, v⟩ := y
      simp only [txX, List.cons_append, List.nil_append] at h
      injection h with e _
      omega
  | (k, v) :: xs, b, r1, r2, ha, hb, d1, d2, h => by
    cases b with
    | nil =>
      simp only [txX, List.cons_append, List.nil_append] at h
      injection h with e _
      omega
    | cons y ys =>
      obtain ⟨k', v'⟩ := y
      simp only [wrdK, Bool.and_eq_true] at ha hb
      simp only [txX, List.cons_append, List.append_assoc, List.cons.injEq, true_and] at h
      obtain ⟨e1, e2⟩ := tx_inj k k' _ _ ha.1.1 hb.1.1 (dlm_c (.inr (.inr (.inr (.inr rfl))))) (dlm_c (.inr (.inr (.inr (.inr rfl))))) h
      simp only [List.cons_append, List.append_assoc, List.cons.injEq, true_and] at e2
      obtain ⟨e3, e4⟩ := tx_inj v v' _ _ ha.1.2 hb.1.2 (dlm_X _ _) (dlm_X _ _) e2
      obtain ⟨e5, e6⟩ := txX_inj xs ys r1 r2 ha.2 hb.2 d1 d2 e4
      exact ⟨by rw [e1, e3, e5], e6⟩
end
end Sm


set_option Elab.async false
set_option linter.all false
set_option maxRecDepth 100000
set_option maxHeartbeats 1000000
/-! Pl4: the library's repr text is tx. -/
namespace Sm
open PySem PySem.Spec L2
abbrev cl (x : Str) : List Nat := x.cps.toList
theorem cl_app (a b : Str) : cl (a ++ b) = cl a ++ cl b := PyProof.Rows.cps_toList_append a b
theorem cl_of (s : String) : cl (Str.ofString s) = s.toList.map Char.toNat := PyProof.Rows.signs_ofString s
def jw (c : Nat) : List (List Nat) → List Nat
  | [] => [c]
  | t :: r => 44 :: 32 :: (t ++ jw c r)
theorem txW_jw (c : Nat) : ∀ xs : List D, txW c xs = jw c (xs.map tx)
  | [] => by simp [txW, jw]
  | x :: xs => by simp [txW, jw, txW_jw c xs]
theorem cl_join (c : Nat) : ∀ (ts : List Str) (t : Str), cl (Str.join ", " (t :: ts)) ++ [c] = cl t ++ jw c (ts.map cl)
  | [], t => by rw [PyProof.Rows.join_one]; rfl
  | u :: ts, t => by
    rw [PyProof.Rows.join_cons_cons, cl_app, cl_app, List.append_assoc, List.append_assoc, cl_join c ts u]
    have : cl (", " : Str) = [44, 32] := by rw [cl_of]; rfl
    rw [this]
    simp [jw]
theorem cl_from (c : Nat) : ∀ (ts : List Str) (k : Nat) (acc : Str), cl (textFrom (k + 1) acc ts) ++ [c] = cl acc ++ jw c (ts.map cl)
  | [], k, acc => rfl
  | t :: ts, k, acc => by
    show cl (textFrom (k + 1 + 1) (acc ++ (if k + 1 > 0 then ", " else "" : String) ++ t) ts) ++ [c] = _
    rw [cl_from c ts (k + 1), cl_app, cl_app, if_pos (Nat.succ_pos k)]
    have : cl (Str.ofString ", ") = [44, 32] := by rw [cl_of]; rfl
    rw [this]
    simp [jw]
theorem cl_list : ∀ ts : List Str, cl (listText ts) = (match ts with | [] => [91, 93] | t :: r => 91 :: (cl t ++ jw 93 (r.map cl)))
  | [] => by
    unfold listText
    rw [cl_app]
    have e1 : cl (Str.ofString "]") = [93] := by rw [cl_of]; rfl
    have e2 : cl (textFrom 0 (Str.ofString "[") []) = [91] := by show cl (Str.ofString "[") = _; rw [cl_of]; rfl
    rw [e1, e2]; rfl
  | t :: r => by
    unfold listText
    rw [cl_app]
    have e1 : cl (Str.ofString "]") = [93] := by rw [cl_of]; rfl
    rw [e1]
    show cl (textFrom (0 + 1) (Str.ofString "[" ++ (if 0 > 0 then ", " else "" : String) ++ t) r) ++ [93] = _
    rw [cl_from 93 r 0, cl_app, cl_app]
    have e3 : cl (Str.ofString "[") = [91] := by rw [cl_of]; rfl
    have e4 : cl ((if 0 > 0 then ", " else "" : String) : Str) = [] := by rw [if_neg (by decide), cl_of]; rfl
    rw [e3, e4]
    simp
theorem cl_tuple : ∀ ts : List Str, cl (tupleText ts) = (match ts with | [] => [40, 41] | [t] => 40 :: (cl t ++ [44, 41]) | t :: u :: r => 40 :: (cl t ++ jw 41 ((u :: r).map cl)))
  | [] => by
    unfold tupleText
    rw [cl_app, cl_app]
    have e1 : cl (Str.ofString "(") = [40] := by rw [cl_of]; rfl
    have e2 : cl (Str.join ", " []) = [] := rfl
    have e3 : cl ((if ([] : List Str).length == 1 then ",)" else ")" : String) : Str) = [41] := by
      show cl (Str.ofString ")") = _
      rw [cl_of]; rfl
    rw [e1, e2, e3]; rfl
  | [t] => by
    unfold tupleText
    rw [cl_app, cl_app, PyProof.Rows.join_one]
    have e1 : cl (Str.ofString "(") = [40] := by rw [cl_of]; rfl
    have e3 : cl ((if [t].length == 1 then ",)" else ")" : String) : Str) = [44, 41] := by
      show cl (Str.ofString ",)") = _
      rw [cl_of]; rfl
    rw [e1, e3]; simp
  | t :: u :: r => by
    unfold tupleText
    rw [cl_app, cl_app]
    have e1 : cl (Str.ofString "(") = [40] := by rw [cl_of]; rfl
    have e3 : cl ((if (t :: u :: r).length == 1 then ",)" else ")" : String) : Str) = [41] := by
      have : ((t :: u :: r).length == 1) = false := by simp
      rw [this]
      show cl (Str.ofString ")") = _
      rw [cl_of]; rfl
    rw [e1, e3, List.append_assoc, cl_join 41 (u :: r) t]; rfl
theorem cl_dict : ∀ ts : List Str, cl (dictText ts) = (match ts with | [] => [123, 125] | t :: r => 123 :: (cl t ++ jw 125 (r.map cl)))
  | [] => by
    unfold dictText
    rw [cl_app, cl_app]
    have e1 : cl (Str.ofString "{") = [123] := by rw [cl_of]; rfl
    have e2 : cl (Str.join ", " []) = [] := rfl
    have e3 : cl (Str.ofString "}") = [125] := by rw [cl_of]; rfl
    rw [e1, e2, e3]; rfl
  | t :: r => by
    unfold dictText
    rw [cl_app, cl_app]
    have e1 : cl (Str.ofString "{") = [123] := by rw [cl_of]; rfl
    have e3 : cl (Str.ofString "}") = [125] := by rw [cl_of]; rfl
    rw [e1, e3, List.append_assoc, cl_join 125 r t]; rfl
mutual
theorem shown_tx : ∀ d : D, wrd d = true → cl d.py.shown = tx d
  | .non, _ => by simp only [D.py, PyData.shown, tx]; rw [cl_of]; rfl
  | .bl true, _ => by simp only [D.py, PyData.shown, tx]; show cl (Str.ofString "True") = _; rw [cl_of]; rfl
  | .bl false, _ => by simp only [D.py, PyData.shown, tx]; show cl (Str.ofString "False") = _; rw [cl_of]; rfl
  | .int i, _ => by simp only [D.py, PyData.shown, tx, txI]; rw [cl_of]
  | .str x, h => by
    simp only [wrd, Bool.and_eq_true, decide_eq_true_eq] at h
    simp only [D.py, PyData.shown, tx]
    exact h.1
  | .tup xs, h => by
    simp only [wrd] at h
    have e := shownL_tx xs h
    simp only [D.py, PyData.shown]
    rw [cl_tuple]
    match xs, e with
    | [], _ => simp [pyL, PyData.shownAll, tx]
    | [x], e =>
      simp only [pyL, PyData.shownAll, List.map_cons, List.map_nil, List.cons.injEq, and_true] at e
      simp only [pyL, PyData.shownAll, tx]
      rw [e]
    | x :: y :: r, e =>
      simp only [pyL, PyData.shownAll, List.map_cons, List.cons.injEq] at e
      simp only [pyL, PyData.shownAll, tx, List.map_cons]
      rw [e.1, e.2.1, e.2.2, txW_jw]
      rfl
  | .lst xs, h => by
    simp only [wrd] at h
    have e := shownL_tx xs h
    simp only [D.py, PyData.shown]
    rw [cl_list]
    match xs, e with
    | [], _ => simp [pyL, PyData.shownAll, tx]
    | x :: r, e =>
      simp only [pyL, PyData.shownAll, List.map_cons, List.cons.injEq] at e
      simp only [pyL, PyData.shownAll, tx]
      rw [e.1, e.2, txW_jw]
  | .dct kvs, h => by
    simp only [wrd] at h
    simp only [D.py, PyData.shown]
    rw [cl_dict]
    match kvs, h with
    | [], _ => simp [pyK, PyData.shownKv, tx]
    | (k, v) :: r, h =>
      have h' := h
      simp only [wrdK, Bool.and_eq_true] at h
      have e1 := shown_tx k h.1.1
      have e2 := shown_tx v h.1.2
      have e3 := shownK_tx r h.2
      have c : cl (Str.ofString ": ") = [58, 32] := by rw [cl_of]; rfl
      simp only [pyK, PyData.shownKv, tx]
      rw [cl_app, cl_app, e1, e2, c, e3]
      simp
  | .obj _, h => by simp [wrd] at h
  | .glo _, h => by simp [wrd] at h
  | .scr _, h => by simp [wrd] at h
theorem shownL_tx : ∀ xs : List D, wrdL xs = true → (PyData.shownAll (pyL xs)).map cl = xs.map tx
  | [], _ => by simp [pyL, PyData.shownAll]
  | x :: xs, h => by
    simp only [wrdL, Bool.and_eq_true] at h
    simp only [pyL, PyData.shownAll, List.map_cons]
    rw [shown_tx x h.1, shownL_tx xs h.2]
theorem shownK_tx : ∀ xs : List (D × D), wrdK xs = true → jw 125 ((PyData.shownKv (pyK xs)).map cl) = txX xs
  | [], _ => by simp [pyK, PyData.shownKv, jw, txX]
  | (k, v) :: xs, h => by
    simp only [wrdK, Bool.and_eq_true] at h
    have c : cl (Str.ofString ": ") = [58, 32] := by rw [cl_of]; rfl
    simp only [pyK, PyData.shownKv, List.map_cons, jw, txX]
    rw [cl_app, cl_app, shown_tx k h.1.1, shown_tx v h.1.2, c, shownK_tx xs h.2]
    simp
end
/-- repr tells data apart -/
theorem shown_inj {a b : D} (ha : wrd a = true) (hb : wrd b = true) : a.py.shown = b.py.shown ↔ a = b := by
  refine ⟨fun h => ?_, fun h => by rw [h]⟩
  have e : tx a = tx b := by rw [← shown_tx a ha, ← shown_tx b hb, h]
  have nil : Dlm [] := fun c r' e => by cases e
  exact (tx_inj a b [] [] ha hb nil nil (by rw [List.append_nil, List.append_nil]; exact e)).1
end Sm


set_option Elab.async false
set_option linter.all false
set_option maxRecDepth 100000
set_option maxHeartbeats 1000000
/-! Pl5: when repr runs; how long it is. -/
namespace Sm
open PySem PySem.Spec L2
mutual
/-- a bound of the length of repr; ints below 2 ^ 62 -/
def wt : D → Nat
  | .non => 4
  | .bl _ => 5
  | .int _ => 20
  | .str x => x.length + 2
  | .tup xs => 3 + wtL xs
  | .lst xs => 3 + wtL xs
  | .dct kvs => 3 + wtK kvs
  | _ => 0
def wtL : List D → Nat
  | [] => 0
  | x :: xs => wt x + 2 + wtL xs
def wtK : List (D × D) → Nat
  | [] => 0
  | (k, v) :: xs => wt k + wt v + 4 + wtK xs
end
mutual
/-- all its ints lie between -2 ^ 62 and 2 ^ 62 -/
@[simp] def smI : D → Bool
  | .int i => decide (-(2 ^ 62) < i ∧ i < 2 ^ 62)
  | .tup xs => smIL xs
  | .lst xs => smIL xs
  | .dct kvs => smIK kvs
  | _ => true
def smIL : List D → Bool
  | [] => true
  | x :: xs => smI x && smIL xs
def smIK : List (D × D) → Bool
  | [] => true
  | (k, v) :: xs => smI k && smI v && smIK xs
end
theorem digits_len : ∀ (k n : Nat), n < 10 ^ k → 0 < k → (Nat.toDigits 10 n).length ≤ k := fun k n h hk => by
  rw [Nat.length_toDigits_le_iff (by decide) hk]
  exact h
theorem txI_len {i : Int} (h : -(2 ^ 62) < i ∧ i < 2 ^ 62) : (txI i).length ≤ 20 := by
  unfold txI
  rw [List.length_map, Int.toString_eq_repr, Int.repr_eq_if]
  have e : (10 : Nat) ^ 19 = 10000000000000000000 := by decide
  split
  · rw [Nat.toList_repr]
    have := digits_len 19 i.toNat (by rw [e]; omega) (by decide)
    omega
  · rw [String.toList_append, Nat.toList_repr, List.length_append]
    have := digits_len 19 (-i).toNat (by rw [e]; omega) (by decide)
    have e2 : ("-" : String).toList.length = 1 := rfl
    omega
mutual
theorem tx_len : ∀ d : D, smI d = true → (tx d).length ≤ wt d
  | .non, _ => by simp [tx, wt]
  | .bl true, _ => by simp [tx, wt]
  | .bl false, _ => by simp [tx, wt]
  | .int i, h => by
    simp only [smI, decide_eq_true_eq] at h
    simp only [tx, wt]
    exact txI_len h
  | .str x, _ => by simp [tx, wt, Str.length]
  | .tup [], _ => by simp [tx, wt, wtL]
  | .tup [x], h => by
    simp only [smI, smIL, Bool.and_true] at h
    have := tx_len x h
    simp [tx, wt, wtL]
    omega
  | .tup (x :: y :: r), h => by
    simp only [smI, smIL, Bool.and_eq_true] at h
    have h1 := tx_len x h.1
    have h2 := txW_len 41 (y :: r) (by simp only [smIL, Bool.and_eq_true]; exact h.2)
    simp only [tx, wt, wtL, List.length_cons, List.length_append] at h2 ⊢
    omega
  | .lst [], _ => by simp [tx, wt, wtL]
  | .lst (x :: r), h => by
    simp only [smI, smIL, Bool.and_eq_true] at h
    have h1 := tx_len x h.1
    have h2 := txW_len 93 r h.2
    simp only [tx, wt, wtL, List.length_cons, List.length_append] at h2 ⊢
    omega
  | .dct [], _ => by simp [tx, wt, wtK]
  | .dct ((k, v) :: r), h => by
    simp only [smI, smIK, Bool.and_eq_true] at h
    have h1 := tx_len k h.1.1
    have h2 := tx_len v h.1.2
    have h3 := txX_len r h.2
    simp only [tx, wt, wtK, List.length_cons, List.length_append] at h3 ⊢
    omega
  | .obj _, _ => by simp [tx]
  | .glo _, _ => by simp [tx]
  | .scr _, _ => by simp [tx]
theorem txW_len : ∀ (c : Nat) (xs : List D), smIL xs = true → (txW c xs).length ≤ 1 + wtL xs
  | c, [], _ => by simp [txW, wtL]
  | c, x :: xs, h => by
    simp only [smIL, Bool.and_eq_true] at h
    have h1 := tx_len x h.1
    have h2 := txW_len c xs h.2
    simp only [txW, wtL, List.length_cons, List.length_append] at h2 ⊢
    omega
theorem txX_len : ∀ xs : List (D × D), smIK xs = true → (txX xs).length ≤ 1 + wtK xs
  | [], _ => by simp [txX, wtK]
  | (k, v) :: xs, h => by
    simp only [smIK, Bool.and_eq_true] at h
    have h1 := tx_len k h.1.1
    have h2 := tx_len v h.1.2
    have h3 := txX_len xs h.2
    simp only [txX, wtK, List.length_cons, List.length_append] at h3 ⊢
    omega
end
mutual
theorem show_ok : ∀ d : D, smI d = true → d.py.showable = true
  | .non, _ => by simp [D.py, PyData.showable]
  | .bl _, _ => by simp [D.py, PyData.showable]
  | .int i, h => by
    simp only [smI, decide_eq_true_eq] at h
    simp only [D.py, PyData.showable, decide_eq_true_eq]
    by_cases z : i.natAbs = 0
    · rw [z]; decide
    · rw [Nat.log2_lt z]
      have : (2 : Nat) ^ 62 ≤ 2 ^ 1920 := Nat.pow_le_pow_right (by decide) (by decide)
      omega
  | .str _, _ => by simp [D.py, PyData.showable]
  | .tup xs, h => by simp only [smI] at h; simp only [D.py, PyData.showable]; exact showL_ok xs h
  | .lst xs, h => by simp only [smI] at h; simp only [D.py, PyData.showable]; exact showL_ok xs h
  | .dct xs, h => by simp only [smI] at h; simp only [D.py, PyData.showable]; exact showK_ok xs h
  | .obj _, _ => by simp [D.py, PyData.showable]
  | .glo _, _ => by simp [D.py, PyData.showable]
  | .scr _, _ => by simp [D.py, PyData.showable]
theorem showL_ok : ∀ xs : List D, smIL xs = true → PyData.showableAll (pyL xs) = true
  | [], _ => by simp [pyL, PyData.showableAll]
  | x :: xs, h => by
    simp only [smIL, Bool.and_eq_true] at h
    simp only [pyL, PyData.showableAll, Bool.and_eq_true]
    exact ⟨show_ok x h.1, showL_ok xs h.2⟩
theorem showK_ok : ∀ xs : List (D × D), smIK xs = true → PyData.showableKv (pyK xs) = true
  | [], _ => by simp [pyK, PyData.showableKv]
  | (k, v) :: xs, h => by
    simp only [smIK, Bool.and_eq_true] at h
    simp only [pyK, PyData.showableKv, Bool.and_eq_true]
    exact ⟨⟨show_ok k h.1.1, show_ok v h.1.2⟩, showK_ok xs h.2⟩
end
/-- data whose repr is told apart and fits -/
structure Rok (d : D) : Prop where
  w : wrd d = true
  t : dat 60 d = true
  s : smI d = true
  l : wt d ≤ line
theorem rep_ok {d : D} (h : Rok d) : repD d = some (.str d.py.shown) := by
  unfold repD
  have e : d.py.shown.length = (tx d).length := by
    rw [← shown_tx d h.w]; simp [Str.length]
  rw [if_pos]
  simp only [Bool.and_eq_true, decide_eq_true_eq]
  refine ⟨⟨h.t, show_ok d h.s⟩, ?_⟩
  rw [e]
  exact Nat.le_trans (tx_len d h.s) h.l
theorem eqD_rep {a b : D} (ha : Rok a) (hb : Rok b) [Decidable (a = b)] : eqD (.str a.py.shown) (.str b.py.shown) = some (.bl (decide (a = b))) := by
  simp only [eqD, shp_str, Bool.and_self, eqv_str]
  congr 2
  rw [Bool.eq_iff_iff, decide_eq_true_eq, decide_eq_true_eq]
  exact shown_inj ha.w hb.w
theorem neD_rep {a b : D} (ha : Rok a) (hb : Rok b) [Decidable (a = b)] : neD (.str a.py.shown) (.str b.py.shown) = some (.bl (!decide (a = b))) := by
  have := eqD_rep ha hb
  simp only [eqD, neD, shp_str, Bool.and_self, eqv_str] at this ⊢
  simpa using this
/-! ### folds over lists -/
@[simp] theorem wrdL_all : ∀ xs : List D, wrdL xs = xs.all wrd
  | [] => by simp [wrdL]
  | x :: xs => by simp [wrdL, wrdL_all xs]
@[simp] theorem smIL_all : ∀ xs : List D, smIL xs = xs.all smI
  | [] => by simp [smIL]
  | x :: xs => by simp [smIL, smIL_all xs]
@[simp] theorem nbL_all : ∀ xs : List D, nbL xs = xs.all nb
  | [] => by simp [nbL]
  | x :: xs => by simp [nbL, nbL_all xs]
theorem wtL_le {B : Nat} : ∀ xs : List D, (∀ x ∈ xs, wt x ≤ B) → wtL xs ≤ (B + 2) * xs.length
  | [], _ => by simp [wtL]
  | x :: xs, h => by
    have h1 := h x List.mem_cons_self
    have h2 := wtL_le xs fun y hy => h y (List.mem_cons_of_mem _ hy)
    simp only [wtL, List.length_cons, Nat.mul_add]
    omega
end Sm


set_option Elab.async false
set_option linter.all false
set_option maxRecDepth 100000
set_option maxHeartbeats 2000000
/-! Pl6: plain tools: operators on ints, indices. -/
namespace Sm
open PySem PySem.Spec L2
@[simp] theorem ixN_u (n : Nat) (i : Int) : ixN n i = if 0 ≤ i then (if i < n then some i.toNat else none) else if -(n : Int) ≤ i then some (i + n).toNat else none := rfl
theorem small_of {i : Int} (h : -(2 ^ 64) < i ∧ i < 2 ^ 64) : small i = true := by unfold small; exact decide_eq_true h
theorem mulA_r {i j : Int} (h : -(2 ^ 64) < j ∧ j < 2 ^ 64) : mulA (.int i) (.int j) = some (.int (i * j)) := by
  show (if mulOk i j = true then some (D.int (i * j)) else none).or _ = _
  rw [if_pos (by unfold mulOk; rw [small_of h]; simp [ixD, atI, absD, intD, lenD, tupD, listD, sumD, lotD])]; rfl
theorem mulA_l {i j : Int} (h : -(2 ^ 64) < i ∧ i < 2 ^ 64) : mulA (.int i) (.int j) = some (.int (i * j)) := by
  show (if mulOk i j = true then some (D.int (i * j)) else none).or _ = _
  rw [if_pos (by unfold mulOk; rw [small_of h]; simp [ixD, atI, absD, intD, lenD, tupD, listD, sumD, lotD])]; rfl
@[simp] theorem addA_int {i j : Int} : addA (.int i) (.int j) = some (.int (i + j)) := rfl
@[simp] theorem subD_int {i j : Int} : subD (.int i) (.int j) = some (.int (i - j)) := rfl
theorem modD_int {i j : Int} (h : 0 < j) : modD (.int i) (.int j) = some (.int (i % j)) := by
  show (if j = 0 then none else some (D.int (i.fmod j))) = _
  rw [if_neg (by omega), Int.fmod_eq_emod_of_nonneg i (by omega)]
theorem fdivD_int {i j : Int} (h : 0 < j) (h2 : j < 1073741824) : fdivD (.int i) (.int j) = some (.int (i / j)) := by
  show (if 0 < j ∧ j.natAbs.log2 < 9000 ∨ (j ≠ 0 ∧ j.natAbs < 1073741824) then some (D.int (i.fdiv j)) else none) = _
  rw [if_pos (.inr ⟨by omega, by omega⟩), Int.fdiv_eq_ediv_of_nonneg i (by omega)]
@[simp] theorem eqD_int {i j : Int} : eqD (.int i) (.int j) = some (.bl (decide (i = j))) := by simp [eqD]
@[simp] theorem neD_int {i j : Int} : neD (.int i) (.int j) = some (.bl (!decide (i = j))) := by simp [neD]
@[simp] theorem eqD_str {i j : Str} : eqD (.str i) (.str j) = some (.bl (decide (i = j))) := by simp [eqD]
@[simp] theorem neD_str {i j : Str} : neD (.str i) (.str j) = some (.bl (!decide (i = j))) := by simp [neD]
/-- the hand: cells, place, rest, mixed, turns -/
def hnd (cs : List Int) (a b s c : Int) : List D := [.lst (cs.map .int), .int a, .int b, .int s, .int c]
structure Hok (h : List D) : Prop where
  ex : ∃ (cs : List Int) (a b s c : Int), h = hnd cs a b s c ∧ (∀ x ∈ cs, 0 ≤ x) ∧ 0 ≤ a ∧ 0 ≤ b ∧ 0 ≤ s ∧ 0 ≤ c ∧ cs.length ≤ 63
theorem mulA_mod {x m j : Int} (h : 0 < m ∧ m < 4611686018427387904) : mulA (.int (x % m)) (.int j) = some (.int (x % m * j)) := by
  have h1 := Int.emod_nonneg x (b := m) (by omega)
  have h2 := Int.emod_lt_of_pos x (b := m) h.1
  exact mulA_l (by omega)
def drawT : Tx := (tAnd' (tV (eBin (pur eqD) (eBin ixD (eVar 0) (eC (.int 2))) (eC (.int 0)))) (tV (eBin (pur ltD) (eBin ixD (eVar 0) (eC (.int 1))) (eFn (g1 fun d => lift (lenD d)) (lCons (eBin ixD (eVar 0) (eC (.int 0))) lNil)))))
def drawU : Sx := (sSeq (sSet 2 (eBin ixD (eBin ixD (eVar 0) (eC (.int 0))) (eBin ixD (eVar 0) (eC (.int 1))))) (sSeq (sSetAt 0 (eC (.int 1)) (eBin (pur addA) (eBin ixD (eVar 0) (eC (.int 1))) (eC (.int 1)))) (sSeq (sSetAt 0 (eC (.int 3)) (eBin (pur modD) (eFn (g1 fun d => lift (intD d)) (lCons (eBin (pur addA) (eBin (pur addA) (eBin (pur mulA) (eBin ixD (eVar 0) (eC (.int 3))) (eC (.int 48271))) (eBin (pur mulA) (eVar 2) (eC (.int 5)))) (eC (.int 29))) lNil)) (eC (.int 2147483587)))) (sSetAt 0 (eC (.int 2)) (eIf (tV (eBin (pur geD) (eVar 2) (eBin (pur powD) (eC (.int 10)) (eC (.int 18))))) (eVar 2) (eC (.int 0)))))))
def drawR : Sx := (sSeq (sIf (tV (eBin (pur gtD) (eBin ixD (eVar 0) (eC (.int 2))) (eC (.int 0)))) (sSeq (sSet 3 (eBin (pur modD) (eFn (g1 fun d => lift (intD d)) (lCons (eBin ixD (eVar 0) (eC (.int 2))) lNil)) (eVar 1))) (sSeq (sSetAt 0 (eC (.int 2)) (eBin (pur fdivD) (eBin ixD (eVar 0) (eC (.int 2))) (eVar 1))) (sRet (eVar 3)))) sNil) (sSeq (sSetAt 0 (eC (.int 4)) (eBin (pur addA) (eBin ixD (eVar 0) (eC (.int 4))) (eC (.int 1)))) (sSeq (sSet 4 (eBin (pur modD) (eFn (g1 fun d => lift (intD d)) (lCons (eBin (pur mulA) (eFn (g1 fun d => lift (intD d)) (lCons (eBin (pur addA) (eBin ixD (eVar 0) (eC (.int 3))) (eBin (pur mulA) (eC (.int 7877)) (eBin ixD (eVar 0) (eC (.int 4))))) lNil)) (eC (.int 69621))) lNil)) (eC (.int 2147483647)))) (sSeq (sSet 4 (eBin (pur modD) (eFn (g1 fun d => lift (intD d)) (lCons (eBin (pur mulA) (eVar 4) (eBin (pur addA) (eBin (pur fdivD) (eVar 4) (eC (.int 1103))) (eC (.int 40692)))) lNil)) (eC (.int 2147483399)))) (sSeq (sSet 4 (eBin (pur modD) (eFn (g1 fun d => lift (intD d)) (lCons (eBin (pur mulA) (eVar 4) (eBin (pur addA) (eBin (pur fdivD) (eVar 4) (eC (.int 2311))) (eC (.int 48271)))) lNil)) (eC (.int 2147483629)))) (sRet (eBin (pur modD) (eFn (g1 fun d => lift (intD d)) (lCons (eBin (pur fdivD) (eVar 4) (eC (.int 16))) lNil)) (eVar 1))))))))
def drawM : Sx := sSeq (sIf drawT drawU sNil) drawR

def fin : Fl → M D := fun f => match f with
  | .rt d => ret d
  | .nx _ => ret .non
theorem rest_ok {e : En} {cs : List Int} {a b s c many : Int} (e0 : e 0 = some (false, .obj 0)) (e1 : e 1 = some (false, .int many)) (hc : ∀ x ∈ cs, 0 ≤ x) (ha : 0 ≤ a) (hb : 0 ≤ b) (hs : 0 ≤ s) (hcc : 0 ≤ c) (h1 : 1 ≤ many) (h2 : many < 1073741824) (hl : cs.length ≤ 63) :
    ∃ r h', bnd (drawR e) fin [hnd cs a b s c] = .ok (.int r) [h'] ∧ 0 ≤ r ∧ r < many ∧ Hok h' := by
  have q1 : ∀ {i : Int}, modD (.int i) (.int many) = some (.int (i % many)) := fun {i} => modD_int (by omega)
  have q2 : ∀ {i : Int}, fdivD (.int i) (.int many) = some (.int (i / many)) := fun {i} => fdivD_int (by omega) h2
  by_cases hb0 : 0 < b
  · refine ⟨b % many, hnd cs a (b / many) s c, ?_, Int.emod_nonneg _ (by omega), Int.emod_lt_of_pos _ (by omega), ⟨⟨cs, a, b / many, s, c, rfl, hc, ha, Int.ediv_nonneg (by omega) (by omega), hs, hcc, hl⟩⟩⟩
    have : ¬ b = 0 := by omega
    simp [ixD, atI, absD, intD, lenD, tupD, listD, sumD, lotD, drawR, hnd, this, hb0, e0, e1, q1, q2, fin]
  · have hbz : b = 0 := by omega
    subst hbz
    refine ⟨_, hnd cs a 0 s (c + 1), by simp [ixD, atI, absD, intD, lenD, tupD, listD, sumD, lotD, drawR, hnd, e0, e1, q1, q2, mulA_r, mulA_l, modD_int, fdivD_int, mulA_mod, fin]; rfl, Int.emod_nonneg _ (by omega), Int.emod_lt_of_pos _ (by omega), ⟨⟨cs, a, 0, s, c + 1, rfl, hc, ha, by omega, hs, by omega, hl⟩⟩⟩
theorem pow18 : powD (.int 10) (.int 18) = some (.int 1000000000000000000) := by
  show (if (0 : Int) ≤ 18 ∧ (18 : Int) ≤ 1000000 ∧ (10 : Int).natAbs < 2 ^ 64 then some (D.int (10 ^ (18 : Int).toNat)) else none) = _
  rw [if_pos (by decide)]
  rfl
theorem draw_ok {h : List D} (hh : Hok h) {many : Int} (h1 : 1 ≤ many) (h2 : many < 1073741824) : ∃ r h', callS .froz drawM [.obj 0, .int many] [h] = .ok (.int r) [h'] ∧ 0 ≤ r ∧ r < many ∧ Hok h' := by
  obtain ⟨cs, a, b, s, c, rfl, hc, ha, hb, hs, hcc, hl⟩ := hh.ex
  have start : ∀ {e : En} {st1 : Store}, sIf drawT drawU sNil (env0 [.obj 0, .int many]) [hnd cs a b s c] = .ok (.nx e) st1 → callS .froz drawM [.obj 0, .int many] [hnd cs a b s c] = bnd (drawR e) fin st1 := fun {e st1} q => by
    show bnd (bnd (sIf drawT drawU sNil (env0 [.obj 0, .int many])) _) _ _ = _
    simp only [bnd_ok', q]
    rfl
  by_cases hif : b = 0 ∧ a < cs.length
  · obtain ⟨rfl, hlt⟩ := hif
    obtain ⟨j, rfl⟩ : ∃ j : Nat, a = j := ⟨a.toNat, by omega⟩
    have hj : j < cs.length := by omega
    have hx := hc cs[j] (List.getElem_mem hj)
    have r1 : ∃ e, e 0 = some (false, .obj 0) ∧ e 1 = some (false, .int many) ∧ sIf drawT drawU sNil (env0 [.obj 0, .int many]) [hnd cs j 0 s c] = .ok (.nx e) [hnd cs (j + 1) (if 1000000000000000000 ≤ cs[j] then cs[j] else 0) ((s * 48271 + cs[j] * 5 + 29) % 2147483587) c] := by
      refine ⟨(env0 [.obj 0, .int many]).put 2 false (.int cs[j]), by simp [ixD, atI, absD, intD, lenD, tupD, listD, sumD, lotD], by simp [ixD, atI, absD, intD, lenD, tupD, listD, sumD, lotD], ?_⟩
      by_cases z : 1000000000000000000 ≤ cs[j]
      · simp [ixD, atI, absD, intD, lenD, tupD, listD, sumD, lotD, drawT, drawU, hnd, hj, mulA_r, mulA_l, modD_int, pow18, z]
      · simp [ixD, atI, absD, intD, lenD, tupD, listD, sumD, lotD, drawT, drawU, hnd, hj, mulA_r, mulA_l, modD_int, pow18, z]
    obtain ⟨e, e0, e1, q⟩ := r1
    rw [start q]
    exact rest_ok e0 e1 hc (by omega) (by split <;> omega) (Int.emod_nonneg _ (by decide)) hcc h1 h2 hl
  · have r1 : sIf drawT drawU sNil (env0 [.obj 0, .int many]) [hnd cs a b s c] = .ok (.nx (env0 [.obj 0, .int many])) [hnd cs a b s c] := by
      by_cases hb0 : b = 0
      · have : ¬ a < cs.length := fun z => hif ⟨hb0, z⟩
        subst hb0
        simp [ixD, atI, absD, intD, lenD, tupD, listD, sumD, lotD, drawT, hnd, this]
      · simp [ixD, atI, absD, intD, lenD, tupD, listD, sumD, lotD, drawT, hnd, hb0]
    rw [start r1]
    exact rest_ok (by simp [ixD, atI, absD, intD, lenD, tupD, listD, sumD, lotD]) (by simp [ixD, atI, absD, intD, lenD, tupD, listD, sumD, lotD]) hc ha hb hs hcc h1 h2 hl
@[simp] theorem lenD_tup {xs : List D} : lenD (.tup xs) = some (.int xs.length) := rfl
@[simp] theorem lenD_lst {xs : List D} : lenD (.lst xs) = some (.int xs.length) := rfl
@[simp] theorem lenD_scr {xs : List D} : lenD (.scr xs) = some (.int xs.length) := rfl
@[simp] theorem tupD_tup {xs : List D} : tupD (.tup xs) = some (.tup xs) := rfl
@[simp] theorem tupD_lst {xs : List D} : tupD (.lst xs) = some (.tup xs) := rfl
@[simp] theorem listD_tup {xs : List D} : listD (.tup xs) = some (.lst xs) := rfl
@[simp] theorem listD_lst {xs : List D} : listD (.lst xs) = some (.lst xs) := rfl
@[simp] theorem absD_int {i : Int} : absD (.int i) = some (.int (if i < 0 then -i else i)) := rfl
@[simp] theorem intD_int {i : Int} : intD (.int i) = some (.int i) := rfl
@[simp] theorem intD_bl {b : Bool} : intD (.bl b) = some (.int (if b then 1 else 0)) := rfl
@[simp] theorem sumD_lst {ns : List Int} : sumD (.lst (ns.map .int)) = some (.int ns.sum) := by simp [sumD, lotD]
@[simp] theorem sumD_tup {ns : List Int} : sumD (.tup (ns.map .int)) = some (.int ns.sum) := by simp [sumD, lotD]
@[simp] theorem lenD_tI {m : List Int} : lenD (tI m) = some (.int m.length) := by simp [tI]
@[simp] theorem sumD_tI {m : List Int} : sumD (tI m) = some (.int m.sum) := sumD_tup
@[simp] theorem seqD_tI {m : List Int} : seqD (tI m) = some (m.map .int) := rfl
@[simp] theorem ixD_tI {m : List Int} {i : Int} : ixD (tI m) (.int i) = lift (L2.atI (m.map .int) i) := rfl
@[simp] theorem seqD_lst {xs : List D} : seqD (.lst xs) = some xs := rfl
@[simp] theorem seqD_tup {xs : List D} : seqD (.tup xs) = some xs := rfl
@[simp] theorem ixD_tup {xs : List D} {i : Int} : ixD (.tup xs) (.int i) = lift (L2.atI xs i) := rfl
@[simp] theorem ixD_lst {xs : List D} {i : Int} : ixD (.lst xs) (.int i) = lift (L2.atI xs i) := rfl
@[simp] theorem ixD_scr {xs : List D} {i : Int} : ixD (.scr xs) (.int i) = lift (L2.atI xs i) := rfl
@[simp] theorem atI_0 {α : Type} {a : α} {r : List α} : atI (a :: r) 0 = some a := by simp [atI, ixN]
@[simp] theorem atI_1 {α : Type} {a b : α} {r : List α} : atI (a :: b :: r) 1 = some b := by
  have : (1 : Int) < (r.length : Int) + 1 + 1 := by omega
  simp [atI, ixN, this]
@[simp] theorem atI_2 {α : Type} {a b c : α} {r : List α} : atI (a :: b :: c :: r) 2 = some c := by
  have : (2 : Int) < (r.length : Int) + 1 + 1 + 1 := by omega
  simp [atI, ixN, this]
theorem atI_ok {α : Type} (d : α) {xs : List α} {x : Int} (h : 0 ≤ x ∧ x < xs.length) : atI xs x = some (xs.getD x.toNat d) := by
  obtain ⟨k, rfl⟩ : ∃ k : Nat, x = k := ⟨x.toNat, by omega⟩
  have hk : k < xs.length := by omega
  simp [atI, ixN, hk]
end Sm


set_option Elab.async false
set_option linter.all false
set_option maxRecDepth 100000
set_option maxHeartbeats 2000000
/-! Pl7: plain tools: all, any, comprehensions' answers, loops. -/
namespace Sm
open PySem PySem.Spec L2
theorem trL_bls : ∀ bs : List Bool, trL (bs.map D.bl) = some bs
  | [] => rfl
  | b :: bs => by simp [trL, trD, trL_bls bs]
theorem trL_ints : ∀ ns : List Int, trL (ns.map D.int) = some (ns.map (· != 0))
  | [] => rfl
  | n :: ns => by simp [trL, trD, trL_ints ns]
theorem shpL_bls (n : Nat) (bs : List Bool) : shpL n (bs.map D.bl) = true := by rw [shpL_all]; simp
theorem shpL_ints (n : Nat) (ns : List Int) : shpL n (ns.map D.int) = true := by rw [shpL_all]; simp
@[simp] theorem allD_p {α : Type} (xs : List α) (p : α → Bool) : allD (.lst (xs.map fun x => .bl (p x))) = some (.bl (xs.all p)) := by
  have e : (xs.map fun x => D.bl (p x)) = (xs.map p).map D.bl := by simp
  unfold allD
  rw [e]
  show (if shpL 60 ((xs.map p).map D.bl) = true then (trL ((xs.map p).map D.bl)).map (fun bs => D.bl (bs.all id)) else none) = _
  rw [if_pos (shpL_bls _ _), trL_bls]
  simp [List.all_map]
@[simp] theorem anyD_p {α : Type} (xs : List α) (p : α → Bool) : anyD (.lst (xs.map fun x => .bl (p x))) = some (.bl (xs.any p)) := by
  have e : (xs.map fun x => D.bl (p x)) = (xs.map p).map D.bl := by simp
  unfold anyD
  rw [e]
  show (if shpL 60 ((xs.map p).map D.bl) = true then (trL ((xs.map p).map D.bl)).map (fun bs => D.bl (bs.any id)) else none) = _
  rw [if_pos (shpL_bls _ _), trL_bls]
  simp [List.any_map]
theorem anyD_ints (ns : List Int) : anyD (.tup (ns.map .int)) = some (.bl (ns.any (· != 0))) := by
  unfold anyD
  show (if shpL 60 (ns.map D.int) = true then (trL (ns.map D.int)).map (fun bs => D.bl (bs.any id)) else none) = _
  rw [if_pos (shpL_ints _ _), trL_ints]
  simp [List.any_map, Function.comp_def]
/-- between -/
def inR (lo hi : Int) : D → Bool
  | .int i => decide (lo ≤ i ∧ i ≤ hi)
  | _ => false
theorem inR_all {lo hi : Int} : ∀ {xs : List D}, xs.all (inR lo hi) = true → ∃ ns : List Int, xs = ns.map .int ∧ ∀ n ∈ ns, lo ≤ n ∧ n ≤ hi
  | [], _ => ⟨[], rfl, fun n h => by cases h⟩
  | x :: xs, h => by
    rw [List.all_cons, Bool.and_eq_true] at h
    obtain ⟨ns, e, hn⟩ := inR_all h.2
    cases x with
    | int i =>
      refine ⟨i :: ns, by rw [e]; rfl, fun n hm => ?_⟩
      rcases List.mem_cons.mp hm with z | z
      · rw [z]; exact of_decide_eq_true h.1
      · exact hn n z
    | _ => exact absurd h.1 (by simp [inR])
theorem all_inR {lo hi : Int} {ns : List Int} (h : ∀ n ∈ ns, lo ≤ n ∧ n ≤ hi) : (ns.map D.int).all (inR lo hi) = true := by
  rw [List.all_map, List.all_eq_true]
  exact fun n hn => decide_eq_true (h n hn)
theorem cut1 {α : Type} (xs : List α) : cut xs (some 1) none = xs.drop 1 := by
  unfold cut
  have e : HT.sIx xs.length 0 (some 1) = min 1 xs.length := HT.sIx_nat xs.length 0 1
  rw [e, HT.sIx_none]
  cases xs with
  | nil => rfl
  | cons x xs => simp
theorem cut_to {α : Type} (xs : List α) (k : Nat) : cut xs none (some (k : Int)) = xs.take k := by
  unfold cut
  rw [HT.sIx_none, HT.sIx_nat]
  simp only [List.drop_zero, Nat.sub_zero]
  by_cases h : k ≤ xs.length
  · rw [Nat.min_eq_left h]
  · rw [Nat.min_eq_right (by omega), List.take_of_length_le (Nat.le_refl _), List.take_of_length_le (by omega)]
theorem cut_from {α : Type} (xs : List α) (k : Nat) : cut xs (some (k : Int)) none = xs.drop k := by
  unfold cut
  rw [HT.sIx_none, HT.sIx_nat]
  by_cases h : k ≤ xs.length
  · rw [Nat.min_eq_left h, List.take_of_length_le (by rw [List.length_drop]; exact Nat.le_refl _)]
  · rw [Nat.min_eq_right (by omega), List.drop_of_length_le (Nat.le_refl _), List.drop_of_length_le (by omega)]
    simp
@[simp] theorem enumD0_map {α : Type} (f : α → D) (xs : List α) : enumD 0 (xs.map f) = xs.zipIdx.map fun p => .tup [.int (p.2 : Nat), f p.1] := enumD_map f xs 0
theorem iZip_eq {a b : Ex} {env : En} {st : Store} {x y : D} {xs ys : List D} (ha : a env st = .ok x st) (hb : b env st = .ok y st) (hx : seqD x = some xs) (hy : seqD y = some ys) : iZipS a b env st = .ok (zipD xs ys) st := by
  unfold iZipS
  rw [bnd_eq ha, bnd_eq hb, hx, hy]
  rfl
theorem iEnum_eq {a : Ex} {env : En} {st : Store} {x : D} {xs : List D} (ha : a env st = .ok x st) (hx : seqD x = some xs) : iEnumS a env st = .ok (enumD 0 xs) st := by
  unfold iEnumS
  rw [bnd_eq ha, hx]
  rfl
theorem iSeq_eq {a : Ex} {env : En} {st st1 : Store} {x : D} {xs : List D} (ha : a env st = .ok x st1) (hx : seqD x = some xs) : iSeq a env st = .ok xs st1 := by
  unfold iSeq
  rw [bnd_eq ha, hx]
  rfl
theorem sm62_of {n : Nat} (h : n < 100000) : sm62 (n : Int) = true := by
  unfold sm62
  rw [decide_eq_true_eq]
  have e : (2 : Int) ^ 62 = 4611686018427387904 := by decide
  rw [e]
  omega
theorem iRng_eq {a : Ex} {env : En} {st st1 : Store} {n : Nat} (ha : a env st = .ok (.int (n : Int)) st1) (h : n < 100000) : iRng1S a env st = .ok ((List.range n).map fun i => .int (i : Nat)) st1 := by
  unfold iRng1S
  rw [bnd_eq ha]
  show lift (if sm62 (n : Int) = true then some (rngD 0 n) else none) st1 = _
  rw [if_pos (sm62_of h)]
  simp [rngD]
theorem toLine {n : Nat} (h : n ≤ 100000) : n ≤ line := Nat.le_trans h (by decide)
end Sm


set_option Elab.async false
set_option linter.all false
set_option maxRecDepth 100000
set_option maxHeartbeats 2000000
/-! Pl8: plain tools: loops with an invariant. -/
namespace Sm
open PySem PySem.Spec L2
theorem forS_run {g : Gx} {b : Sx} {I : Nat → En → Store → Prop} : ∀ (ds : List D) (k : Nat) (env : En) (st : Store), I k env st →
    (∀ (i : Nat) (d : D) (e : En) (s : Store), ds[i]? = some d → I (k + i) e s → ∃ e1 e2 s2, g d e = some e1 ∧ b e1 s = .ok (.nx e2) s2 ∧ I (k + i + 1) e2 s2) →
    ∃ e' s', forS g b ds env st = .ok (.nx e') s' ∧ I (k + ds.length) e' s'
  | [], k, env, st, h, _ => ⟨env, st, rfl, h⟩
  | d :: ds, k, env, st, h, step => by
    obtain ⟨e1, e2, s2, h1, h2, h3⟩ := step 0 d env st rfl h
    obtain ⟨e', s', h4, h5⟩ := forS_run ds (k + 1) e2 s2 h3 fun i d' e s hd hi => by
      have := step (i + 1) d' e s (by simpa using hd) (by rw [show k + (i + 1) = k + 1 + i by omega]; exact hi)
      rw [show k + (i + 1) + 1 = k + 1 + i + 1 by omega] at this
      exact this
    refine ⟨e', s', ?_, by rw [List.length_cons, show k + (ds.length + 1) = k + 1 + ds.length by omega]; exact h5⟩
    unfold forS
    simp only [h1]
    rw [bnd_eq h2]
    exact h4
theorem sFor_run {it : Lx} {g : Gx} {b : Sx} {env : En} {st st1 : Store} {I : Nat → En → Store → Prop} (ds : List D) (hi : it env st = .ok ds st1) (h0 : I 0 env st1)
    (step : ∀ (i : Nat) (d : D) (e : En) (s : Store), ds[i]? = some d → I i e s → ∃ e1 e2 s2, g d e = some e1 ∧ b e1 s = .ok (.nx e2) s2 ∧ I (i + 1) e2 s2) :
    ∃ e' s', sFor it g b env st = .ok (.nx e') s' ∧ I ds.length e' s' := by
  obtain ⟨e', s', h1, h2⟩ := forS_run (g := g) (b := b) (I := I) ds 0 env st1 h0 fun i d e s hd hI => by rw [Nat.zero_add] at *; exact step i d e s hd hI
  refine ⟨e', s', ?_, by rw [Nat.zero_add] at h2; exact h2⟩
  unfold sFor
  rw [bnd_eq hi]
  exact h1
theorem lcS_run {g : Gx} {t : Tx} {m : Ex} {env : En} {I : Nat → List D → Store → Prop} : ∀ (ds : List D) (k : Nat) (acc : List D) (st : Store), I k acc st →
    (∀ (i : Nat) (d : D) (a : List D) (s : Store), ds[i]? = some d → I (k + i) a s → ∃ e1 c s1, g d env = some e1 ∧ t e1 s = .ok c s1 ∧ (c = true → ∃ y s2, m e1 s1 = .ok y s2 ∧ I (k + i + 1) (a ++ [y]) s2) ∧ (c = false → I (k + i + 1) a s1)) →
    ∃ ys s', lcS g t m ds env st = .ok ys s' ∧ I (k + ds.length) (acc ++ ys) s'
  | [], k, acc, st, h, _ => ⟨[], st, rfl, by rw [List.append_nil]; exact h⟩
  | d :: ds, k, acc, st, h, step => by
    obtain ⟨e1, c, s1, h1, h2, h3, h4⟩ := step 0 d acc st rfl h
    have nxt : ∀ (acc : List D) (s : Store), I (k + 1) acc s → ∃ ys s', lcS g t m ds env s = .ok ys s' ∧ I (k + 1 + ds.length) (acc ++ ys) s' := fun acc s hI =>
      lcS_run ds (k + 1) acc s hI fun i d' a s hd hi => by
        have := step (i + 1) d' a s (by simpa using hd) (by rw [show k + (i + 1) = k + 1 + i by omega]; exact hi)
        rw [show k + (i + 1) + 1 = k + 1 + i + 1 by omega] at this
        exact this
    rw [List.length_cons, show k + (ds.length + 1) = k + 1 + ds.length by omega]
    unfold lcS
    simp only [h1]
    cases c with
    | true =>
      obtain ⟨y, s2, h5, h6⟩ := h3 rfl
      obtain ⟨ys, s', h7, h8⟩ := nxt _ _ h6
      refine ⟨y :: ys, s', ?_, by rw [List.append_cons]; exact h8⟩
      rw [bnd_eq h2, if_pos rfl, bnd_eq h5, bnd_eq h7]
      rfl
    | false =>
      obtain ⟨ys, s', h7, h8⟩ := nxt _ _ (h4 rfl)
      refine ⟨ys, s', ?_, h8⟩
      rw [bnd_eq h2, if_neg (by simp)]
      exact h7
/-- a comprehension that draws -/
theorem eLc_run {vs : List Nat} {it : Lx} {g : Gx} {t : Tx} {m : Ex} {env : En} {st st1 : Store} {I : Nat → List D → Store → Prop} (ds : List D) (hi : it env st = .ok ds st1) (hl : ds.length ≤ 100000) (h0 : I 0 [] st1)
    (step : ∀ (i : Nat) (d : D) (a : List D) (s : Store), ds[i]? = some d → I i a s → ∃ e1 c s1, g d (env.clr vs) = some e1 ∧ t e1 s = .ok c s1 ∧ (c = true → ∃ y s2, m e1 s1 = .ok y s2 ∧ I (i + 1) (a ++ [y]) s2) ∧ (c = false → I (i + 1) a s1)) :
    ∃ ys s', eLc vs it g t m env st = .ok (.lst ys) s' ∧ I ds.length ys s' := by
  obtain ⟨ys, s', h1, h2⟩ := lcS_run (g := g) (t := t) (m := m) (env := env.clr vs) (I := I) ds 0 [] st1 h0 fun i d a s hd hI => by rw [Nat.zero_add] at *; exact step i d a s hd hI
  refine ⟨ys, s', ?_, by rw [Nat.zero_add] at h2; exact h2⟩
  unfold eLc
  rw [bnd_eq hi, if_pos (toLine hl)]
  unfold quiet
  rw [bnd_eq h1]
  rfl
theorem sSeq_eq {a b : Sx} {env e1 : En} {st st1 : Store} (h : a env st = .ok (.nx e1) st1) : sSeq a b env st = b e1 st1 := by
  unfold sSeq
  rw [bnd_eq h]
theorem sSeq_rt {a b : Sx} {env : En} {st st1 : Store} {d : D} (h : a env st = .ok (.rt d) st1) : sSeq a b env st = .ok (.rt d) st1 := by
  unfold sSeq
  rw [bnd_eq h]
  rfl
theorem sSet_eq {i : Nat} {m : Ex} {env : En} {st st1 : Store} {d : D} (h : m env st = .ok d st1) : sSet i m env st = .ok (.nx (env.put i false d)) st1 := by
  unfold sSet
  rw [bnd_eq h]
  rfl
theorem sOwn_eq {i : Nat} {m : Ex} {env : En} {st st1 : Store} {d : D} (h : m env st = .ok d st1) : sOwn i m env st = .ok (.nx (env.put i true d)) st1 := by
  unfold sOwn
  rw [bnd_eq h]
  rfl
theorem sRet_eq {m : Ex} {env : En} {st st1 : Store} {d : D} (h : m env st = .ok d st1) : sRet m env st = .ok (.rt d) st1 := by
  unfold sRet
  rw [bnd_eq h]
  rfl
theorem sDrop_eq {m : Ex} {env : En} {st st1 : Store} {d : D} (h : m env st = .ok d st1) : sDrop m env st = .ok (.nx env) st1 := by
  unfold sDrop
  rw [bnd_eq h]
  rfl
theorem sIf_eq {t : Tx} {a b : Sx} {env : En} {st st1 : Store} {c : Bool} (h : t env st = .ok c st1) : sIf t a b env st = (if c = true then a env else b env) st1 := by
  unfold sIf
  rw [bnd_eq h]
theorem sIf_no {t : Tx} {a : Sx} {env : En} {st st1 : Store} (h : t env st = .ok false st1) : sIf t a sNil env st = .ok (.nx env) st1 := by
  rw [sIf_eq h, if_neg (by simp)]
  rfl
theorem callS_rt {m : Sx} {ds : List D} {st st1 : Store} {d : D} (h : m (env0 ds) st = .ok (.rt d) st1) : callS .froz m ds st = .ok d st1 := by
  unfold callS
  rw [bnd_eq h]
  rfl
theorem callS_nx {m : Sx} {ds : List D} {st st1 : Store} {e : En} (h : m (env0 ds) st = .ok (.nx e) st1) : callS .froz m ds st = .ok .non st1 := by
  unfold callS
  rw [bnd_eq h]
  rfl
theorem callS_frt {m : Sx} {ds : List D} {st st1 : Store} {d : D} (h : m (env0 ds) st = .ok (.rt d) st1) : callS .fresh m ds st = .ok d st1 := by
  unfold callS
  rw [bnd_eq h]
  rfl
theorem tV_eq {m : Ex} {env : En} {st st1 : Store} {b : Bool} (h : m env st = .ok (.bl b) st1) : tV m env st = .ok b st1 := by
  unfold tV
  rw [bnd_eq h]
  rfl
theorem tNot_eq {t : Tx} {env : En} {st st1 : Store} {b : Bool} (h : t env st = .ok b st1) : tNot' t env st = .ok (!b) st1 := by
  unfold tNot'
  rw [bnd_eq h]
  rfl
theorem tOr_no {t u : Tx} {env : En} {st st1 : Store} (h : t env st = .ok false st1) : tOr' t u env st = u env st1 := by
  unfold tOr'
  rw [bnd_eq h, if_neg (by simp)]
theorem tOr_yes {t u : Tx} {env : En} {st st1 : Store} (h : t env st = .ok true st1) : tOr' t u env st = .ok true st1 := by
  unfold tOr'
  rw [bnd_eq h, if_pos rfl]
  rfl
theorem fn1 {F : Fx} {a : Ex} {env : En} {st st1 : Store} {x : D} (h : a env st = .ok x st1) : eFn F (lCons a lNil) env st = F [x] st1 := by
  unfold eFn lCons
  simp [h]
theorem fn2 {F : Fx} {a b : Ex} {env : En} {st st1 st2 : Store} {x y : D} (h : a env st = .ok x st1) (h2 : b env st1 = .ok y st2) : eFn F (lCons a (lCons b lNil)) env st = F [x, y] st2 := by
  unfold eFn lCons
  simp [h, h2]
theorem fn3 {F : Fx} {a b c : Ex} {env : En} {st st1 st2 st3 : Store} {x y z : D} (h : a env st = .ok x st1) (h2 : b env st1 = .ok y st2) (h3 : c env st2 = .ok z st3) : eFn F (lCons a (lCons b (lCons c lNil))) env st = F [x, y, z] st3 := by
  unfold eFn lCons
  simp [h, h2, h3]
theorem fn4 {F : Fx} {a b c d : Ex} {env : En} {st st1 st2 st3 st4 : Store} {x y z w : D} (h : a env st = .ok x st1) (h2 : b env st1 = .ok y st2) (h3 : c env st2 = .ok z st3) (h4 : d env st3 = .ok w st4) : eFn F (lCons a (lCons b (lCons c (lCons d lNil)))) env st = F [x, y, z, w] st4 := by
  unfold eFn lCons
  simp [h, h2, h3, h4]
theorem eVar_eq {i : Nat} {env : En} {st : Store} {d : D} (h : env i = some (false, d)) : eVar i env st = .ok d st := by simp [h]
theorem eBin_eq {g : D → D → Option D} {a b : Ex} {env : En} {st st1 st2 : Store} {x y z : D} (h : a env st = .ok x st1) (h2 : b env st1 = .ok y st2) (h3 : g x y = some z) : eBin (pur g) a b env st = .ok z st2 := by
  simp [h, h2, h3]
theorem g1_eq {f : D → Option D} {a : Ex} {env : En} {st st1 : Store} {x y : D} (h : a env st = .ok x st1) (h2 : f x = some y) : eFn (g1 fun d => lift (f d)) (lCons a lNil) env st = .ok y st1 := by
  rw [fn1 h]
  simp [h2]
theorem eIf_eq {t : Tx} {a b : Ex} {env : En} {st st1 : Store} {c : Bool} (h : t env st = .ok c st1) : eIf t a b env st = (if c = true then a env else b env) st1 := by
  unfold eIf
  rw [bnd_eq h]
theorem eAnd_t {a b : Ex} {env : En} {st st1 : Store} (h : a env st = .ok (.bl true) st1) : eAnd a b env st = b env st1 := by
  unfold eAnd
  rw [bnd_eq h]
theorem eAnd_f {a b : Ex} {env : En} {st st1 : Store} (h : a env st = .ok (.bl false) st1) : eAnd a b env st = .ok (.bl false) st1 := by
  unfold eAnd
  rw [bnd_eq h]
  rfl
theorem eOr_f {a b : Ex} {env : En} {st st1 : Store} (h : a env st = .ok (.bl false) st1) : eOr a b env st = b env st1 := by
  unfold eOr
  rw [bnd_eq h]
theorem eOr_t {a b : Ex} {env : En} {st st1 : Store} (h : a env st = .ok (.bl true) st1) : eOr a b env st = .ok (.bl true) st1 := by
  unfold eOr
  rw [bnd_eq h]
  rfl
theorem tAnd_t {t u : Tx} {env : En} {st st1 : Store} (h : t env st = .ok true st1) : tAnd' t u env st = u env st1 := by
  unfold tAnd'
  rw [bnd_eq h, if_pos rfl]
theorem tAnd_f {t u : Tx} {env : En} {st st1 : Store} (h : t env st = .ok false st1) : tAnd' t u env st = .ok false st1 := by
  unfold tAnd'
  rw [bnd_eq h, if_neg (by simp)]
  rfl
theorem eTup_eq {m : Lx} {env : En} {st st1 : Store} {ds : List D} (h : m env st = .ok ds st1) : eTup m env st = .ok (.tup ds) st1 := by
  unfold eTup
  rw [bnd_eq h]
  rfl
theorem eLst_eq {m : Lx} {env : En} {st st1 : Store} {ds : List D} (h : m env st = .ok ds st1) : eLst m env st = .ok (.lst ds) st1 := by
  unfold eLst
  rw [bnd_eq h]
  rfl
theorem lCons_eq {m : Ex} {r : Lx} {env : En} {st st1 st2 : Store} {d : D} {ds : List D} (h : m env st = .ok d st1) (h2 : r env st1 = .ok ds st2) : lCons m r env st = .ok (d :: ds) st2 := by
  unfold lCons
  rw [bnd_eq h, bnd_eq h2]
  rfl
theorem lNil_eq {env : En} {st : Store} : lNil env st = .ok [] st := rfl
theorem eC_eq {d : D} {env : En} {st : Store} : eC d env st = .ok d st := rfl
end Sm


set_option Elab.async false
set_option linter.all false
set_option maxRecDepth 100000
set_option maxHeartbeats 2000000
/-! Pl9: plain tools: least and greatest. -/
namespace Sm
open PySem PySem.Spec L2
theorem alikeAll_ints : ∀ xs ys : List Int, PySem.W.alikeAll (pyL (xs.map .int)) (pyL (ys.map .int)) = true := fun xs ys => by
  have := PySem.W.alike_ints xs ys
  rw [pyL_map, pyL_map, List.map_map, List.map_map]
  exact this
@[simp] theorem alike_tI (a b : List Int) : PySem.W.alike (tI a).py (tI b).py = true := by
  simp only [tI, D.py, PySem.W.alike]
  exact alikeAll_ints a b
@[simp] theorem alike_int (a b : Int) : PySem.W.alike (D.int a).py (D.int b).py = true := by simp [D.py, PySem.W.alike]
/-- the least of x and xs -/
def mn (x : Int) (xs : List Int) : Int := xs.foldl min x
def mx (x : Int) (xs : List Int) : Int := xs.foldl max x
theorem minF_int : ∀ (xs : List Int) (x : Int), minF (.int x) (xs.map .int) = .int (mn x xs)
  | [], x => rfl
  | y :: xs, x => by
    have := minF_int xs (min x y)
    unfold minF mn at this ⊢
    rw [List.map_cons, List.foldl_cons, List.foldl_cons, ← this]
    congr 1
    simp only [lt_int', decide_eq_true_eq]
    by_cases h : y < x
    · rw [if_pos h, Int.min_eq_right (by omega)]
    · rw [if_neg h, Int.min_eq_left (by omega)]
theorem maxF_int : ∀ (xs : List Int) (x : Int), maxF (.int x) (xs.map .int) = .int (mx x xs)
  | [], x => rfl
  | y :: xs, x => by
    have := maxF_int xs (max x y)
    unfold maxF mx at this ⊢
    rw [List.map_cons, List.foldl_cons, List.foldl_cons, ← this]
    congr 1
    simp only [lt_int', decide_eq_true_eq]
    by_cases h : x < y
    · rw [if_pos h, Int.max_eq_right (by omega)]
    · rw [if_neg h, Int.max_eq_left (by omega)]
theorem alkL_ints (xs : List Int) : alkL (xs.map .int) = true := by
  unfold alkL
  rw [shpL_all]
  simp [isNon]
@[simp] theorem minD_ints (x : Int) (xs : List Int) : minD' (.lst ((x :: xs).map .int)) = some (.int (mn x xs)) := by
  show (if alkL ((x :: xs).map .int) = true then some (minF (.int x) (xs.map .int)) else none) = _
  rw [if_pos (alkL_ints _), minF_int]
@[simp] theorem maxD_ints (x : Int) (xs : List Int) : maxD' (.lst ((x :: xs).map .int)) = some (.int (mx x xs)) := by
  show (if alkL ((x :: xs).map .int) = true then some (maxF (.int x) (xs.map .int)) else none) = _
  rw [if_pos (alkL_ints _), maxF_int]
theorem mn_le : ∀ (xs : List Int) (x : Int), mn x xs ≤ x ∧ (∀ y ∈ xs, mn x xs ≤ y)
  | [], x => ⟨Int.le_refl _, fun y h => by cases h⟩
  | z :: xs, x => by
    have ⟨h1, h2⟩ := mn_le xs (min x z)
    have e : mn x (z :: xs) = mn (min x z) xs := rfl
    rw [e]
    refine ⟨by omega, fun y hy => ?_⟩
    rcases List.mem_cons.mp hy with q | q
    · rw [q]; omega
    · exact h2 y q
theorem mn_mem : ∀ (xs : List Int) (x : Int), mn x xs ∈ x :: xs
  | [], x => by simp [mn]
  | z :: xs, x => by
    have h := mn_mem xs (min x z)
    have e : mn x (z :: xs) = mn (min x z) xs := rfl
    rw [e]
    rcases List.mem_cons.mp h with q | q
    · rw [q]
      by_cases g : x ≤ z
      · rw [Int.min_eq_left g]; simp
      · rw [Int.min_eq_right (by omega)]; simp
    · exact List.mem_cons_of_mem _ (List.mem_cons_of_mem _ q)
/-- (int, row of ints) -/
def kI (a : Int) (m : List Int) : D := .tup [.int a, tI m]
theorem alike_kI (a b : Int) (m o : List Int) : PySem.W.alike (kI a m).py (kI b o).py = true := by
  have := alike_tI m o
  have h2 := alike_int a b
  simp only [kI, D.py, PySem.W.alike, pyL, PySem.W.alikeAll, Bool.and_true, Bool.and_eq_true] at this h2 ⊢
  exact ⟨h2, this⟩
theorem lt_kI (a b : Int) (m o : List Int) (h : a ≠ b) : D.lt (kI a m) (kI b o) = decide (a < b) := by
  have := PySem.W.dataLt_pair (alike_int a b) (alike_tI m o)
  unfold D.lt
  show PySem.W.dataLt (.tuple [(D.int a).py, (tI m).py]) (.tuple [(D.int b).py, (tI o).py]) = _
  rw [this, if_neg, ← lt_int' (i := a)]
  · rfl
  · have e : PyData.eqv (D.int a).py (D.int b).py = decide (a = b) := eqv_int
    rw [e]; simpa using h
theorem minF_kI {α : Type} (f : α → Int) (g : α → List Int) : ∀ (xs : List α) (a : Int) (m : List Int), ∃ o, minF (kI a m) (xs.map fun x => kI (f x) (g x)) = kI (mn a (xs.map f)) o
  | [], a, m => ⟨m, rfl⟩
  | x :: xs, a, m => by
    unfold minF
    rw [List.map_cons, List.foldl_cons, List.map_cons]
    have e : mn a (f x :: xs.map f) = mn (min a (f x)) (xs.map f) := rfl
    rw [e]
    by_cases h : f x = a
    · rw [show min a (f x) = a by omega]
      by_cases l : D.lt (kI (f x) (g x)) (kI a m) = true
      · rw [if_pos l, h]
        exact minF_kI f g xs a (g x)
      · rw [if_neg l]
        exact minF_kI f g xs a m
    · rw [lt_kI _ _ _ _ h]
      by_cases l : f x < a
      · rw [if_pos (decide_eq_true l), show min a (f x) = f x by omega]
        exact minF_kI f g xs (f x) (g x)
      · rw [if_neg (by simpa using l), show min a (f x) = a by omega]
        exact minF_kI f g xs a m
theorem alkL_kI {α : Type} (f : α → Int) (g : α → List Int) (xs : List α) : alkL (xs.map fun x => kI (f x) (g x)) = true := by
  have h : ∀ x, shp 60 (kI (f x) (g x)) = true := fun x => by simp [kI, tI]
  unfold alkL
  rw [shpL_all]
  simp only [List.all_map, Bool.and_eq_true, List.all_eq_true, Function.comp]
  refine ⟨fun x _ => h x, fun x _ => ⟨rfl, fun y _ => alike_kI _ _ _ _⟩⟩
theorem minD_kI {α : Type} (f : α → Int) (g : α → List Int) (x : α) (xs : List α) : ∃ o, minD' (.lst ((x :: xs).map fun x => kI (f x) (g x))) = some (kI (mn (f x) (xs.map f)) o) := by
  obtain ⟨o, h⟩ := minF_kI f g xs (f x) (g x)
  refine ⟨o, ?_⟩
  show (if alkL ((x :: xs).map fun x => kI (f x) (g x)) = true then some (minF (kI (f x) (g x)) (xs.map fun x => kI (f x) (g x))) else none) = _
  rw [if_pos (alkL_kI _ _ _), h]
end Sm


set_option Elab.async false
set_option linter.all false
set_option maxRecDepth 100000
set_option maxHeartbeats 2000000
namespace Lw88
open PySem PySem.Spec L2 Sm
def top (i : Nat) : Stmt := PySem.Challenge.pw_fewclues_k88_whole_messages_guarded_and.main.body.getD i (.Pass ⟨0, 0, 0, 0⟩)
def mkD (x : Str) (i : Nat) : He.DefD := ⟨(x, none), x, x, defArgs (top i), defBody (top i), defScope (top i), [], []⟩
def fn : List He.DefD := ([mkD "is_integer" 1, mkD "is_within" 2, mkD "is_number" 3, mkD "is_tuple" 4, mkD "is_lot" 5, mkD "check_guards" 17, mkD "is_message" 18, mkD "check_message" 19, mkD "odd_of" 20, mkD "right_or_odd" 21, mkD "is_right_or_odd" 22, mkD "all_messages" 23, mkD "right_ones" 24, mkD "off_by" 25, mkD "told" 26, mkD "mended_or_doubt" 27, mkD "is_mended_or_doubt" 28, mkD "right_count" 29, mkD "apart" 30, mkD "least_apart" 31] : List He.DefD) ++ ([mkD "mends" 32, mkD "filled" 33, mkD "needless_lots" 34, mkD "summed" 35, mkD "_law_hand" 37, mkD "_law_draw" 38, mkD "_law_some" 39, mkD "_law_messages" 40, mkD "_law_guards" 41, mkD "_law_odd" 42, mkD "_law_off" 43, mkD "_law_deep" 44, mkD "_law_flag" 45, mkD "_law_told_right" 46, mkD "_law_right" 47, mkD "law" 48] : List He.DefD)
def fa : List He.Fa := ([.glo "is_integer", .glo "is_within", .glo "is_number", .glo "is_tuple", .glo "is_lot", .glo "check_guards", .glo "is_message", .glo "check_message", .glo "odd_of", .glo "right_or_odd", .glo "is_right_or_odd", .glo "all_messages", .glo "right_ones", .glo "off_by", .glo "told", .glo "mended_or_doubt", .glo "is_mended_or_doubt", .glo "right_count", .glo "apart", .glo "least_apart"] : List He.Fa) ++ ([.glo "mends", .glo "filled", .glo "needless_lots", .glo "summed", .glo "_law_hand", .glo "_law_draw", .glo "_law_some", .glo "_law_messages", .glo "_law_guards", .glo "_law_odd", .glo "_law_off", .glo "_law_deep", .glo "_law_flag", .glo "_law_told_right", .glo "_law_right", .glo "law", .free "abs", .free "all", .free "any", .free "bool"] : List He.Fa) ++ ([.free "enumerate", .free "int", .free "isinstance", .free "len", .free "list", .free "min", .free "range", .free "repr", .free "str", .free "sum", .free "super", .free "tuple", .free "zip", .int "MOST" (8), .int "MOST_LOTS" (5), .int "MOST_LOST" (4)] : List He.Fa)
section
variable {P : Program} {w : World} {K : PySem.W.Frag} {mg : Str → Option Value} {base : Heap}
def M_is_integer : Sx := (sRet (eAnd (eIsa PyData.isInt (eVar 0)) (eNot (eIsa PyData.isBool (eVar 0)))))
def F_is_integer : Fx := callS .froz M_is_integer
theorem p_is_integer (S : Says fa fn K mg) : Prm P w K mg base 1 "is_integer" ["thing"] .froz F_is_integer := by
  refine prm_of (N := ["thing"]) (m := M_is_integer) S 0 0 (d := mkD "is_integer" 1) (by kernel_rfl) (by kernel_rfl) rfl rfl rfl ⟨by kernel_rfl, by kernel_rfl, by kernel_rfl, by decide +kernel, by kernel_rfl, by decide +kernel, by decide +kernel⟩ (fun _ _ _ _ _ _ us hl => match us, hl with | [_], _ => rfl) fun f cd A outer s W E G hp => ?_
  exact (ss_one (ss_retF (se_and (se_isa isa_int G.sys (gl_of (by kernel_rfl)) (S.no 42 (by kernel_rfl)) (gl_of (by kernel_rfl)) (S.no 41 (by kernel_rfl)) (by kernel_rfl) (se_var (i := 0) (by kernel_rfl) (.inl (by kernel_rfl)))) (se_one (se_not (se_isa isa_bool G.sys (gl_of (by kernel_rfl)) (S.no 42 (by kernel_rfl)) (gl_of (by kernel_rfl)) (S.no 39 (by kernel_rfl)) (by kernel_rfl) (se_var (i := 0) (by kernel_rfl) (.inl (by kernel_rfl)))))))))
def M_is_tuple : Sx := (sRet (eAnd (eIsa PyData.isTuple (eVar 0)) (eChain (pur leD) (pur leD) (eVar 1) (eFn (g1 fun d => lift (lenD d)) (lCons (eVar 0) lNil)) (eVar 2))))
def F_is_tuple : Fx := callS .froz M_is_tuple
theorem p_is_tuple (S : Says fa fn K mg) : Prm P w K mg base 1 "is_tuple" ["thing", "least", "most"] .froz F_is_tuple := by
  refine prm_of (N := ["thing", "least", "most"]) (m := M_is_tuple) S 3 3 (d := mkD "is_tuple" 4) (by kernel_rfl) (by kernel_rfl) rfl rfl rfl ⟨by kernel_rfl, by kernel_rfl, by kernel_rfl, by decide +kernel, by kernel_rfl, by decide +kernel, by decide +kernel⟩ (fun _ _ _ _ _ _ us hl => match us, hl with | [_, _, _], _ => rfl) fun f cd A outer s W E G hp => ?_
  exact (ss_one (ss_retF (se_and (se_isa isa_tuple G.sys (gl_of (by kernel_rfl)) (S.no 42 (by kernel_rfl)) (gl_of (by kernel_rfl)) (S.no 51 (by kernel_rfl)) (by kernel_rfl) (se_var (i := 0) (by kernel_rfl) (.inl (by kernel_rfl)))) (se_one (se_chain (sop_le G.sys G.un) (sop_le G.sys G.un) (se_var (i := 1) (by kernel_rfl) (.inl (by kernel_rfl))) (se_fnB sf_len (gl_of (by kernel_rfl)) (S.no 43 (by kernel_rfl)) (by kernel_rfl) (sb_cons (se_var (i := 0) (by kernel_rfl) (.inl (by kernel_rfl))) sb_nil)) (se_var (i := 2) (by kernel_rfl) (.inl (by kernel_rfl))))))))
def M_odd_of : Sx := (sRet (eFn (g1 fun d => lift (tupD d)) (lCons (eLc [2, 3, 4] (iEnumS (eBin ixD (eVar 0) (eC (.int 1)))) (gTp (gCs (gNm 3) (gCs (gNm 4) gNl))) (tV (eBin (pur eqD) (eBin (pur modD) (eFn (g1 fun d => lift (sumD d)) (lCons (eLc [2, 5] (iSeq (eVar 4)) (gNm 5) tYesS (eBin ixD (eVar 1) (eVar 5))) lNil)) (eC (.int 2))) (eC (.int 1)))) (eVar 3)) lNil)))
def F_odd_of : Fx := callS .froz M_odd_of
theorem p_odd_of (S : Says fa fn K mg) : Prm P w K mg base 1 "odd_of" ["guards", "message"] .froz F_odd_of := by
  refine prm_of (N := ["guards", "message", ".0", "k", "lot", "at"]) (m := M_odd_of) S 8 8 (d := mkD "odd_of" 20) (by kernel_rfl) (by kernel_rfl) rfl rfl rfl ⟨by kernel_rfl, by kernel_rfl, by kernel_rfl, by decide +kernel, by kernel_rfl, by decide +kernel, by decide +kernel⟩ (fun _ _ _ _ _ _ us hl => match us, hl with | [_, _], _ => rfl) fun f cd A outer s W E G hp => ?_
  exact (ss_one (ss_retF (se_fnT sf_tup (gl_of (by kernel_rfl)) (S.no 51 (by kernel_rfl)) (by kernel_rfl) (sb_cons (se_lc (own := [(".0", 2), ("k", 3), ("lot", 4)]) (is := [3, 4]) G.calm G.nd (blkOk_by (by kernel_rfl)) (by decide) (si_enum (gl_of (by kernel_rfl)) (S.no 40 (by kernel_rfl)) (se_ix (se_var (i := 0) (by kernel_rfl) (.inl (by kernel_rfl))) se_int (fun _ _ => rfl))) (fun _ _ _ _ _ => (sg_tup (n := 2) G.calm (sg_cons (sg_nm (i := 3) ⟨(by exact G.nd), (by kernel_rfl), .inl (by kernel_rfl), .inr (by kernel_rfl)⟩) (sg_cons (sg_nm (i := 4) ⟨(by exact G.nd), (by kernel_rfl), .inl (by kernel_rfl), .inr (by kernel_rfl)⟩) sg_nil)) (gl_len_cons (gl_len_cons gl_len_nil)))) (fun _ _ _ _ _ => (sts_one (st_cmp (sop_eq G.sys G.un) (se_bin sop_mod (se_fnB (sf_sum G.calm) (gl_of (by kernel_rfl)) (S.no 49 (by kernel_rfl)) (by kernel_rfl) (sb_cons (se_lc (own := [(".0", 2), ("at", 5)]) (is := [5]) G.calm G.nd (blkOk_by (by kernel_rfl)) (by decide) (si_seq (se_var (i := 4) (by kernel_rfl) (.inl (by kernel_rfl)))) (fun _ _ _ _ _ => (sg_nm (i := 5) ⟨(by exact G.nd), (by kernel_rfl), .inl (by kernel_rfl), .inr (by kernel_rfl)⟩)) (fun _ _ _ _ _ => sts_nil) (fun _ _ _ _ _ => (se_ix (se_var (i := 1) (by kernel_rfl) (.inr (.inl (by kernel_rfl)))) (se_var (i := 5) (by kernel_rfl) (.inl (by kernel_rfl))) (fun _ _ => rfl)))) sb_nil)) se_int) se_int (nomark _)))) (fun _ _ _ _ _ => (se_var (i := 3) (by kernel_rfl) (.inl (by kernel_rfl))))) sb_nil))))
def M_all_messages : Sx := (sSeq (sSet 1 (eLst (lCons (eTup lNil) lNil))) (sSeq (sFor (iRng1S (eVar 0)) (gNm 2) (sSeq (sOwn 3 (eLst lNil)) (sSeq (sFor (iSeq (eVar 1)) (gNm 4) (sExt 3 (eLst (lCons (eBin (pur addA) (eVar 4) (eTup (lCons (eC (.int 0)) lNil))) (lCons (eBin (pur addA) (eVar 4) (eTup (lCons (eC (.int 1)) lNil))) lNil))))) (sFrz 3 (sSet 1 (eVar 3)))))) (sRet (eVar 1))))
def F_all_messages : Fx := callS .froz M_all_messages
theorem p_all_messages (S : Says fa fn K mg) : Prm P w K mg base 1 "all_messages" ["n"] .froz F_all_messages := by
  refine prm_of (N := ["n", "found", "place", "longer", "message"]) (m := M_all_messages) S 11 11 (d := mkD "all_messages" 23) (by kernel_rfl) (by kernel_rfl) rfl rfl rfl ⟨by kernel_rfl, by kernel_rfl, by kernel_rfl, by decide +kernel, by kernel_rfl, by decide +kernel, by decide +kernel⟩ (fun _ _ _ _ _ _ us hl => match us, hl with | [_], _ => rfl) fun f cd A outer s W E G hp => ?_
  exact (ss_cons (ss_set (i := 1) ⟨(by exact G.nd), (by kernel_rfl), .inl (by kernel_rfl), .inl rfl⟩ (SE.froz (se_lst (sa_cons (se_tup sa_nil ln_nil) sa_nil) (ln_cons ln_nil)))) (ss_cons (ss_for hp G.calm (si_rng1 (gl_of (by kernel_rfl)) (S.no 46 (by kernel_rfl)) (se_var (i := 0) (by kernel_rfl) (.inl (by kernel_rfl)))) (sg_nm (i := 2) ⟨(by exact G.nd), (by kernel_rfl), .inl (by kernel_rfl), .inl rfl⟩) (ss_cons (ss_own (i := 3) ⟨(by exact G.nd), (by kernel_rfl), .inl (by kernel_rfl), .inl rfl⟩ (se_lst sa_nil ln_nil)) (ss_cons (ss_for hp G.calm (si_seq (se_var (i := 1) (by kernel_rfl) (.inl (by kernel_rfl)))) (sg_nm (i := 4) ⟨(by exact G.nd), (by kernel_rfl), .inl (by kernel_rfl), .inl rfl⟩) (ss_one (ss_ext (i := 3) ⟨(by exact G.nd), (by kernel_rfl), .inl (by kernel_rfl), .inl rfl⟩ (.inl (by kernel_rfl)) (se_lst (sa_cons (se_bin sop_addA (se_var (i := 4) (by kernel_rfl) (.inl (by kernel_rfl))) (se_tup (sa_cons se_int sa_nil) (ln_cons ln_nil))) (sa_cons (se_bin sop_addA (se_var (i := 4) (by kernel_rfl) (.inl (by kernel_rfl))) (se_tup (sa_cons se_int sa_nil) (ln_cons ln_nil))) sa_nil)) (ln_cons (ln_cons ln_nil)))))) (ss_frzs (i := 3) (ss_one (ss_set (i := 1) ⟨(by exact G.nd), (by kernel_rfl), .inl (by kernel_rfl), .inl rfl⟩ (se_var (i := 3) (by kernel_rfl) (.inl (by kernel_rfl))))))))) (ss_one (ss_retF (se_var (i := 1) (by kernel_rfl) (.inl (by kernel_rfl)))))))
def M_off_by : Sx := (sRet (eFn (g1 fun d => lift (lenD d)) (lCons (eLc [2, 3, 4] (iZipS (eVar 0) (eVar 1)) (gTp (gCs (gNm 3) (gCs (gNm 4) gNl))) (tV (eBin (pur neD) (eVar 3) (eVar 4))) (eC (.int 1))) lNil)))
def F_off_by : Fx := callS .froz M_off_by
theorem p_off_by (S : Says fa fn K mg) : Prm P w K mg base 1 "off_by" ["one", "other"] .froz F_off_by := by
  refine prm_of (N := ["one", "other", ".0", "a", "b"]) (m := M_off_by) S 13 13 (d := mkD "off_by" 25) (by kernel_rfl) (by kernel_rfl) rfl rfl rfl ⟨by kernel_rfl, by kernel_rfl, by kernel_rfl, by decide +kernel, by kernel_rfl, by decide +kernel, by decide +kernel⟩ (fun _ _ _ _ _ _ us hl => match us, hl with | [_, _], _ => rfl) fun f cd A outer s W E G hp => ?_
  exact (ss_one (ss_retF (se_fnB sf_len (gl_of (by kernel_rfl)) (S.no 43 (by kernel_rfl)) (by kernel_rfl) (sb_cons (se_lc (own := [(".0", 2), ("a", 3), ("b", 4)]) (is := [3, 4]) G.calm G.nd (blkOk_by (by kernel_rfl)) (by decide) (si_zip (gl_of (by kernel_rfl)) (S.no 52 (by kernel_rfl)) (se_var (i := 0) (by kernel_rfl) (.inl (by kernel_rfl))) (se_var (i := 1) (by kernel_rfl) (.inl (by kernel_rfl)))) (fun _ _ _ _ _ => (sg_tup (n := 2) G.calm (sg_cons (sg_nm (i := 3) ⟨(by exact G.nd), (by kernel_rfl), .inl (by kernel_rfl), .inr (by kernel_rfl)⟩) (sg_cons (sg_nm (i := 4) ⟨(by exact G.nd), (by kernel_rfl), .inl (by kernel_rfl), .inr (by kernel_rfl)⟩) sg_nil)) (gl_len_cons (gl_len_cons gl_len_nil)))) (fun _ _ _ _ _ => (sts_one (st_cmp (sop_ne G.sys G.un) (se_var (i := 3) (by kernel_rfl) (.inl (by kernel_rfl))) (se_var (i := 4) (by kernel_rfl) (.inl (by kernel_rfl))) (nomark _)))) (fun _ _ _ _ _ => se_int)) sb_nil))))
def M__law_hand : Sx := (sSeq (sSet 1 (eLc [2, 3] (iSeq (eSl slA (eVar 0) pNo (pAt (eC (.int 63))))) (gNm 3) tYesS (eFn (g1 fun d => lift (absD d)) (lCons (eFn (g1 fun d => lift (intD d)) (lCons (eVar 3) lNil)) lNil)))) (sRet (eLst (lCons (eVar 1) (lCons (eC (.int 0)) (lCons (eC (.int 0)) (lCons (eBin (pur addA) (eC (.int 2161)) (eBin (pur mulA) (eC (.int 197)) (eFn (g1 fun d => lift (lenD d)) (lCons (eVar 1) lNil)))) (lCons (eC (.int 0)) lNil))))))))
def F__law_hand : Fx := callS .fresh M__law_hand
theorem p__law_hand (S : Says fa fn K mg) : Prm P w K mg base 1 "_law_hand" ["script"] .fresh F__law_hand := by
  refine prm_of (N := ["script", "cells", ".0", "cell"]) (m := M__law_hand) S 24 24 (d := mkD "_law_hand" 37) (by kernel_rfl) (by kernel_rfl) rfl rfl rfl ⟨by kernel_rfl, by kernel_rfl, by kernel_rfl, by decide +kernel, by kernel_rfl, by decide +kernel, by decide +kernel⟩ (fun _ _ _ _ _ _ us hl => match us, hl with | [_], _ => rfl) fun f cd A outer s W E G hp => ?_
  exact (ss_cons (ss_setLc (own := [(".0", 2), ("cell", 3)]) (is := [3]) (i := 1) ⟨(by exact G.nd), (by kernel_rfl), .inl (by kernel_rfl), .inl rfl⟩ (by kernel_rfl) G.calm (by kernel_rfl) (blkOk_by (by kernel_rfl)) (by decide) (si_seq (se_slA (se_var (i := 0) (by kernel_rfl) (.inl (by kernel_rfl))) so_no (so_at se_int))) (fun _ _ _ _ _ => (sg_nm (i := 3) ⟨(by exact G.nd), (by kernel_rfl), .inl (by kernel_rfl), .inr (by kernel_rfl)⟩)) (fun _ _ _ _ _ => sts_nil) (fun _ _ _ _ _ => (se_fnB sf_abs (gl_of (by kernel_rfl)) (S.no 36 (by kernel_rfl)) (by kernel_rfl) (sb_cons (se_fnT sf_int (gl_of (by kernel_rfl)) (S.no 41 (by kernel_rfl)) (by kernel_rfl) (sb_cons (se_var (i := 3) (by kernel_rfl) (.inl (by kernel_rfl))) sb_nil)) sb_nil)))) (ss_one (ss_retN (se_lst (sa_cons (se_var (i := 1) (by kernel_rfl) (.inl (by kernel_rfl))) (sa_cons se_int (sa_cons se_int (sa_cons (se_bin sop_addA se_int (se_bin sop_mulA se_int (se_fnB sf_len (gl_of (by kernel_rfl)) (S.no 43 (by kernel_rfl)) (by kernel_rfl) (sb_cons (se_var (i := 1) (by kernel_rfl) (.inl (by kernel_rfl))) sb_nil)))) (sa_cons se_int sa_nil))))) (ln_cons (ln_cons (ln_cons (ln_cons (ln_cons ln_nil)))))))))
def M__law_draw : Sx := (sSeq (sIf (tAnd' (tV (eBin (pur eqD) (eBin ixD (eVar 0) (eC (.int 2))) (eC (.int 0)))) (tV (eBin (pur ltD) (eBin ixD (eVar 0) (eC (.int 1))) (eFn (g1 fun d => lift (lenD d)) (lCons (eBin ixD (eVar 0) (eC (.int 0))) lNil))))) (sSeq (sSet 2 (eBin ixD (eBin ixD (eVar 0) (eC (.int 0))) (eBin ixD (eVar 0) (eC (.int 1))))) (sSeq (sSetAt 0 (eC (.int 1)) (eBin (pur addA) (eBin ixD (eVar 0) (eC (.int 1))) (eC (.int 1)))) (sSeq (sSetAt 0 (eC (.int 3)) (eBin (pur modD) (eFn (g1 fun d => lift (intD d)) (lCons (eBin (pur addA) (eBin (pur addA) (eBin (pur mulA) (eBin ixD (eVar 0) (eC (.int 3))) (eC (.int 48271))) (eBin (pur mulA) (eVar 2) (eC (.int 5)))) (eC (.int 29))) lNil)) (eC (.int 2147483587)))) (sSetAt 0 (eC (.int 2)) (eIf (tV (eBin (pur geD) (eVar 2) (eBin (pur powD) (eC (.int 10)) (eC (.int 18))))) (eVar 2) (eC (.int 0))))))) sNil) (sSeq (sIf (tV (eBin (pur gtD) (eBin ixD (eVar 0) (eC (.int 2))) (eC (.int 0)))) (sSeq (sSet 3 (eBin (pur modD) (eFn (g1 fun d => lift (intD d)) (lCons (eBin ixD (eVar 0) (eC (.int 2))) lNil)) (eVar 1))) (sSeq (sSetAt 0 (eC (.int 2)) (eBin (pur fdivD) (eBin ixD (eVar 0) (eC (.int 2))) (eVar 1))) (sRet (eVar 3)))) sNil) (sSeq (sSetAt 0 (eC (.int 4)) (eBin (pur addA) (eBin ixD (eVar 0) (eC (.int 4))) (eC (.int 1)))) (sSeq (sSet 4 (eBin (pur modD) (eFn (g1 fun d => lift (intD d)) (lCons (eBin (pur mulA) (eFn (g1 fun d => lift (intD d)) (lCons (eBin (pur addA) (eBin ixD (eVar 0) (eC (.int 3))) (eBin (pur mulA) (eC (.int 7877)) (eBin ixD (eVar 0) (eC (.int 4))))) lNil)) (eC (.int 69621))) lNil)) (eC (.int 2147483647)))) (sSeq (sSet 4 (eBin (pur modD) (eFn (g1 fun d => lift (intD d)) (lCons (eBin (pur mulA) (eVar 4) (eBin (pur addA) (eBin (pur fdivD) (eVar 4) (eC (.int 1103))) (eC (.int 40692)))) lNil)) (eC (.int 2147483399)))) (sSeq (sSet 4 (eBin (pur modD) (eFn (g1 fun d => lift (intD d)) (lCons (eBin (pur mulA) (eVar 4) (eBin (pur addA) (eBin (pur fdivD) (eVar 4) (eC (.int 2311))) (eC (.int 48271)))) lNil)) (eC (.int 2147483629)))) (sRet (eBin (pur modD) (eFn (g1 fun d => lift (intD d)) (lCons (eBin (pur fdivD) (eVar 4) (eC (.int 16))) lNil)) (eVar 1)))))))))
def F__law_draw : Fx := callS .froz M__law_draw
theorem p__law_draw (S : Says fa fn K mg) : Prm P w K mg base 1 "_law_draw" ["hand", "many"] .froz F__law_draw := by
  refine prm_of (N := ["hand", "many", "cell", "digit", "number"]) (m := M__law_draw) S 25 25 (d := mkD "_law_draw" 38) (by kernel_rfl) (by kernel_rfl) rfl rfl rfl ⟨by kernel_rfl, by kernel_rfl, by kernel_rfl, by decide +kernel, by kernel_rfl, by decide +kernel, by decide +kernel⟩ (fun _ _ _ _ _ _ us hl => match us, hl with | [_, _], _ => rfl) fun f cd A outer s W E G hp => ?_
  exact (ss_cons (ss_if (SW.st (sw_and (st_cmp (sop_eq G.sys G.un) (se_ix (se_var (i := 0) (by kernel_rfl) (.inl (by kernel_rfl))) se_int (fun _ _ => rfl)) se_int (nomark _)) (sw_and1 (st_cmp (sop_lt G.sys G.un) (se_ix (se_var (i := 0) (by kernel_rfl) (.inl (by kernel_rfl))) se_int (fun _ _ => rfl)) (se_fnB sf_len (gl_of (by kernel_rfl)) (S.no 43 (by kernel_rfl)) (by kernel_rfl) (sb_cons (se_ix (se_var (i := 0) (by kernel_rfl) (.inl (by kernel_rfl))) se_int (fun _ _ => rfl)) sb_nil)) (nomark _))))) (ss_cons (ss_set (i := 2) ⟨(by exact G.nd), (by kernel_rfl), .inl (by kernel_rfl), .inl rfl⟩ (se_ix (se_ix (se_var (i := 0) (by kernel_rfl) (.inl (by kernel_rfl))) se_int (fun _ _ => rfl)) (se_ix (se_var (i := 0) (by kernel_rfl) (.inl (by kernel_rfl))) se_int (fun _ _ => rfl)) (fun _ _ => rfl))) (ss_cons (ss_setAt (i := 0) ⟨(by exact G.nd), (by kernel_rfl), .inl (by kernel_rfl), .inl rfl⟩ (.inl (by kernel_rfl)) (se_bin sop_addA (se_ix (se_var (i := 0) (by kernel_rfl) (.inl (by kernel_rfl))) se_int (fun _ _ => rfl)) se_int) se_int) (ss_cons (ss_setAt (i := 0) ⟨(by exact G.nd), (by kernel_rfl), .inl (by kernel_rfl), .inl rfl⟩ (.inl (by kernel_rfl)) (se_bin sop_mod (se_fnT sf_int (gl_of (by kernel_rfl)) (S.no 41 (by kernel_rfl)) (by kernel_rfl) (sb_cons (se_bin sop_addA (se_bin sop_addA (se_bin sop_mulA (se_ix (se_var (i := 0) (by kernel_rfl) (.inl (by kernel_rfl))) se_int (fun _ _ => rfl)) se_int) (se_bin sop_mulA (se_var (i := 2) (by kernel_rfl) (.inl (by kernel_rfl))) se_int)) se_int) sb_nil)) se_int) se_int) (ss_one (ss_setAt (i := 0) ⟨(by exact G.nd), (by kernel_rfl), .inl (by kernel_rfl), .inl rfl⟩ (.inl (by kernel_rfl)) (se_if (st_cmp (sop_ge G.sys G.un) (se_var (i := 2) (by kernel_rfl) (.inl (by kernel_rfl))) (se_bin sop_pow se_int se_int) (nomark _)) (se_var (i := 2) (by kernel_rfl) (.inl (by kernel_rfl))) se_int) se_int))))) ss_nil) (ss_cons (ss_if (st_cmp (sop_gt G.sys G.un) (se_ix (se_var (i := 0) (by kernel_rfl) (.inl (by kernel_rfl))) se_int (fun _ _ => rfl)) se_int (nomark _)) (ss_cons (ss_set (i := 3) ⟨(by exact G.nd), (by kernel_rfl), .inl (by kernel_rfl), .inl rfl⟩ (se_bin sop_mod (se_fnT sf_int (gl_of (by kernel_rfl)) (S.no 41 (by kernel_rfl)) (by kernel_rfl) (sb_cons (se_ix (se_var (i := 0) (by kernel_rfl) (.inl (by kernel_rfl))) se_int (fun _ _ => rfl)) sb_nil)) (se_var (i := 1) (by kernel_rfl) (.inl (by kernel_rfl))))) (ss_cons (ss_setAt (i := 0) ⟨(by exact G.nd), (by kernel_rfl), .inl (by kernel_rfl), .inl rfl⟩ (.inl (by kernel_rfl)) (se_bin sop_fdiv (se_ix (se_var (i := 0) (by kernel_rfl) (.inl (by kernel_rfl))) se_int (fun _ _ => rfl)) (se_var (i := 1) (by kernel_rfl) (.inl (by kernel_rfl)))) se_int) (ss_one (ss_retF (se_var (i := 3) (by kernel_rfl) (.inl (by kernel_rfl))))))) ss_nil) (ss_cons (ss_setAt (i := 0) ⟨(by exact G.nd), (by kernel_rfl), .inl (by kernel_rfl), .inl rfl⟩ (.inl (by kernel_rfl)) (se_bin sop_addA (se_ix (se_var (i := 0) (by kernel_rfl) (.inl (by kernel_rfl))) se_int (fun _ _ => rfl)) se_int) se_int) (ss_cons (ss_set (i := 4) ⟨(by exact G.nd), (by kernel_rfl), .inl (by kernel_rfl), .inl rfl⟩ (se_bin sop_mod (se_fnT sf_int (gl_of (by kernel_rfl)) (S.no 41 (by kernel_rfl)) (by kernel_rfl) (sb_cons (se_bin sop_mulA (se_fnT sf_int (gl_of (by kernel_rfl)) (S.no 41 (by kernel_rfl)) (by kernel_rfl) (sb_cons (se_bin sop_addA (se_ix (se_var (i := 0) (by kernel_rfl) (.inl (by kernel_rfl))) se_int (fun _ _ => rfl)) (se_bin sop_mulA se_int (se_ix (se_var (i := 0) (by kernel_rfl) (.inl (by kernel_rfl))) se_int (fun _ _ => rfl)))) sb_nil)) se_int) sb_nil)) se_int)) (ss_cons (ss_set (i := 4) ⟨(by exact G.nd), (by kernel_rfl), .inl (by kernel_rfl), .inl rfl⟩ (se_bin sop_mod (se_fnT sf_int (gl_of (by kernel_rfl)) (S.no 41 (by kernel_rfl)) (by kernel_rfl) (sb_cons (se_bin sop_mulA (se_var (i := 4) (by kernel_rfl) (.inl (by kernel_rfl))) (se_bin sop_addA (se_bin sop_fdiv (se_var (i := 4) (by kernel_rfl) (.inl (by kernel_rfl))) se_int) se_int)) sb_nil)) se_int)) (ss_cons (ss_set (i := 4) ⟨(by exact G.nd), (by kernel_rfl), .inl (by kernel_rfl), .inl rfl⟩ (se_bin sop_mod (se_fnT sf_int (gl_of (by kernel_rfl)) (S.no 41 (by kernel_rfl)) (by kernel_rfl) (sb_cons (se_bin sop_mulA (se_var (i := 4) (by kernel_rfl) (.inl (by kernel_rfl))) (se_bin sop_addA (se_bin sop_fdiv (se_var (i := 4) (by kernel_rfl) (.inl (by kernel_rfl))) se_int) se_int)) sb_nil)) se_int)) (ss_one (ss_retF (se_bin sop_mod (se_fnT sf_int (gl_of (by kernel_rfl)) (S.no 41 (by kernel_rfl)) (by kernel_rfl) (sb_cons (se_bin sop_fdiv (se_var (i := 4) (by kernel_rfl) (.inl (by kernel_rfl))) se_int) sb_nil)) (se_var (i := 1) (by kernel_rfl) (.inl (by kernel_rfl))))))))))))
def M__law_messages : Sx := (sSeq (sSet 1 (eLst (lCons (eTup lNil) lNil))) (sSeq (sFor (iRng1S (eVar 0)) (gNm 2) (sSeq (sOwn 3 (eLst lNil)) (sSeq (sFor (iSeq (eVar 1)) (gNm 4) (sExt 3 (eLst (lCons (eBin (pur addA) (eVar 4) (eTup (lCons (eC (.int 0)) lNil))) (lCons (eBin (pur addA) (eVar 4) (eTup (lCons (eC (.int 1)) lNil))) lNil))))) (sFrz 3 (sSet 1 (eVar 3)))))) (sRet (eVar 1))))
def F__law_messages : Fx := callS .froz M__law_messages
theorem p__law_messages (S : Says fa fn K mg) : Prm P w K mg base 1 "_law_messages" ["n"] .froz F__law_messages := by
  refine prm_of (N := ["n", "found", "place", "longer", "row"]) (m := M__law_messages) S 27 27 (d := mkD "_law_messages" 40) (by kernel_rfl) (by kernel_rfl) rfl rfl rfl ⟨by kernel_rfl, by kernel_rfl, by kernel_rfl, by decide +kernel, by kernel_rfl, by decide +kernel, by decide +kernel⟩ (fun _ _ _ _ _ _ us hl => match us, hl with | [_], _ => rfl) fun f cd A outer s W E G hp => ?_
  exact (ss_cons (ss_set (i := 1) ⟨(by exact G.nd), (by kernel_rfl), .inl (by kernel_rfl), .inl rfl⟩ (SE.froz (se_lst (sa_cons (se_tup sa_nil ln_nil) sa_nil) (ln_cons ln_nil)))) (ss_cons (ss_for hp G.calm (si_rng1 (gl_of (by kernel_rfl)) (S.no 46 (by kernel_rfl)) (se_var (i := 0) (by kernel_rfl) (.inl (by kernel_rfl)))) (sg_nm (i := 2) ⟨(by exact G.nd), (by kernel_rfl), .inl (by kernel_rfl), .inl rfl⟩) (ss_cons (ss_own (i := 3) ⟨(by exact G.nd), (by kernel_rfl), .inl (by kernel_rfl), .inl rfl⟩ (se_lst sa_nil ln_nil)) (ss_cons (ss_for hp G.calm (si_seq (se_var (i := 1) (by kernel_rfl) (.inl (by kernel_rfl)))) (sg_nm (i := 4) ⟨(by exact G.nd), (by kernel_rfl), .inl (by kernel_rfl), .inl rfl⟩) (ss_one (ss_ext (i := 3) ⟨(by exact G.nd), (by kernel_rfl), .inl (by kernel_rfl), .inl rfl⟩ (.inl (by kernel_rfl)) (se_lst (sa_cons (se_bin sop_addA (se_var (i := 4) (by kernel_rfl) (.inl (by kernel_rfl))) (se_tup (sa_cons se_int sa_nil) (ln_cons ln_nil))) (sa_cons (se_bin sop_addA (se_var (i := 4) (by kernel_rfl) (.inl (by kernel_rfl))) (se_tup (sa_cons se_int sa_nil) (ln_cons ln_nil))) sa_nil)) (ln_cons (ln_cons ln_nil)))))) (ss_frzs (i := 3) (ss_one (ss_set (i := 1) ⟨(by exact G.nd), (by kernel_rfl), .inl (by kernel_rfl), .inl rfl⟩ (se_var (i := 3) (by kernel_rfl) (.inl (by kernel_rfl))))))))) (ss_one (ss_retF (se_var (i := 1) (by kernel_rfl) (.inl (by kernel_rfl)))))))
def M__law_odd : Sx := (sRet (eLc [2, 3, 4] (iEnumS (eBin ixD (eVar 0) (eC (.int 1)))) (gTp (gCs (gNm 3) (gCs (gNm 4) gNl))) (tV (eBin (pur eqD) (eBin (pur modD) (eFn (g1 fun d => lift (intD d)) (lCons (eFn (g1 fun d => lift (sumD d)) (lCons (eLc [2, 5] (iSeq (eVar 4)) (gNm 5) tYesS (eBin ixD (eVar 1) (eVar 5))) lNil)) lNil)) (eC (.int 2))) (eC (.int 1)))) (eVar 3)))
def F__law_odd : Fx := callS .froz M__law_odd
theorem p__law_odd (S : Says fa fn K mg) : Prm P w K mg base 1 "_law_odd" ["guards", "message"] .froz F__law_odd := by
  refine prm_of (N := ["guards", "message", ".0", "at", "lot", "place"]) (m := M__law_odd) S 29 29 (d := mkD "_law_odd" 42) (by kernel_rfl) (by kernel_rfl) rfl rfl rfl ⟨by kernel_rfl, by kernel_rfl, by kernel_rfl, by decide +kernel, by kernel_rfl, by decide +kernel, by decide +kernel⟩ (fun _ _ _ _ _ _ us hl => match us, hl with | [_, _], _ => rfl) fun f cd A outer s W E G hp => ?_
  exact (ss_one (ss_retF (SE.froz (se_lc (own := [(".0", 2), ("at", 3), ("lot", 4)]) (is := [3, 4]) G.calm G.nd (blkOk_by (by kernel_rfl)) (by decide) (si_enum (gl_of (by kernel_rfl)) (S.no 40 (by kernel_rfl)) (se_ix (se_var (i := 0) (by kernel_rfl) (.inl (by kernel_rfl))) se_int (fun _ _ => rfl))) (fun _ _ _ _ _ => (sg_tup (n := 2) G.calm (sg_cons (sg_nm (i := 3) ⟨(by exact G.nd), (by kernel_rfl), .inl (by kernel_rfl), .inr (by kernel_rfl)⟩) (sg_cons (sg_nm (i := 4) ⟨(by exact G.nd), (by kernel_rfl), .inl (by kernel_rfl), .inr (by kernel_rfl)⟩) sg_nil)) (gl_len_cons (gl_len_cons gl_len_nil)))) (fun _ _ _ _ _ => (sts_one (st_cmp (sop_eq G.sys G.un) (se_bin sop_mod (se_fnT sf_int (gl_of (by kernel_rfl)) (S.no 41 (by kernel_rfl)) (by kernel_rfl) (sb_cons (se_fnB (sf_sum G.calm) (gl_of (by kernel_rfl)) (S.no 49 (by kernel_rfl)) (by kernel_rfl) (sb_cons (se_lc (own := [(".0", 2), ("place", 5)]) (is := [5]) G.calm G.nd (blkOk_by (by kernel_rfl)) (by decide) (si_seq (se_var (i := 4) (by kernel_rfl) (.inl (by kernel_rfl)))) (fun _ _ _ _ _ => (sg_nm (i := 5) ⟨(by exact G.nd), (by kernel_rfl), .inl (by kernel_rfl), .inr (by kernel_rfl)⟩)) (fun _ _ _ _ _ => sts_nil) (fun _ _ _ _ _ => (se_ix (se_var (i := 1) (by kernel_rfl) (.inr (.inl (by kernel_rfl)))) (se_var (i := 5) (by kernel_rfl) (.inl (by kernel_rfl))) (fun _ _ => rfl)))) sb_nil)) sb_nil)) se_int) se_int (nomark _)))) (fun _ _ _ _ _ => (se_var (i := 3) (by kernel_rfl) (.inl (by kernel_rfl))))))))
def M__law_off : Sx := (sRet (eFn (g1 fun d => lift (lenD d)) (lCons (eLc [2, 3, 4] (iZipS (eVar 0) (eVar 1)) (gTp (gCs (gNm 3) (gCs (gNm 4) gNl))) (tV (eBin (pur neD) (eVar 3) (eVar 4))) (eC (.int 1))) lNil)))
def F__law_off : Fx := callS .froz M__law_off
theorem p__law_off (S : Says fa fn K mg) : Prm P w K mg base 1 "_law_off" ["one", "other"] .froz F__law_off := by
  refine prm_of (N := ["one", "other", ".0", "a", "b"]) (m := M__law_off) S 30 30 (d := mkD "_law_off" 43) (by kernel_rfl) (by kernel_rfl) rfl rfl rfl ⟨by kernel_rfl, by kernel_rfl, by kernel_rfl, by decide +kernel, by kernel_rfl, by decide +kernel, by decide +kernel⟩ (fun _ _ _ _ _ _ us hl => match us, hl with | [_, _], _ => rfl) fun f cd A outer s W E G hp => ?_
  exact (ss_one (ss_retF (se_fnB sf_len (gl_of (by kernel_rfl)) (S.no 43 (by kernel_rfl)) (by kernel_rfl) (sb_cons (se_lc (own := [(".0", 2), ("a", 3), ("b", 4)]) (is := [3, 4]) G.calm G.nd (blkOk_by (by kernel_rfl)) (by decide) (si_zip (gl_of (by kernel_rfl)) (S.no 52 (by kernel_rfl)) (se_var (i := 0) (by kernel_rfl) (.inl (by kernel_rfl))) (se_var (i := 1) (by kernel_rfl) (.inl (by kernel_rfl)))) (fun _ _ _ _ _ => (sg_tup (n := 2) G.calm (sg_cons (sg_nm (i := 3) ⟨(by exact G.nd), (by kernel_rfl), .inl (by kernel_rfl), .inr (by kernel_rfl)⟩) (sg_cons (sg_nm (i := 4) ⟨(by exact G.nd), (by kernel_rfl), .inl (by kernel_rfl), .inr (by kernel_rfl)⟩) sg_nil)) (gl_len_cons (gl_len_cons gl_len_nil)))) (fun _ _ _ _ _ => (sts_one (st_cmp (sop_ne G.sys G.un) (se_var (i := 3) (by kernel_rfl) (.inl (by kernel_rfl))) (se_var (i := 4) (by kernel_rfl) (.inl (by kernel_rfl))) (nomark _)))) (fun _ _ _ _ _ => se_int)) sb_nil))))
def M__law_flag : Sx := (sRet (eAnd (eIsa PyData.isBool (eVar 0)) (eBin (pur eqD) (eVar 0) (eVar 1))))
def F__law_flag : Fx := callS .froz M__law_flag
theorem p__law_flag (S : Says fa fn K mg) : Prm P w K mg base 1 "_law_flag" ["told_v", "due"] .froz F__law_flag := by
  refine prm_of (N := ["told_v", "due"]) (m := M__law_flag) S 32 32 (d := mkD "_law_flag" 45) (by kernel_rfl) (by kernel_rfl) rfl rfl rfl ⟨by kernel_rfl, by kernel_rfl, by kernel_rfl, by decide +kernel, by kernel_rfl, by decide +kernel, by decide +kernel⟩ (fun _ _ _ _ _ _ us hl => match us, hl with | [_, _], _ => rfl) fun f cd A outer s W E G hp => ?_
  exact (ss_one (ss_retF (se_and (se_isa isa_bool G.sys (gl_of (by kernel_rfl)) (S.no 42 (by kernel_rfl)) (gl_of (by kernel_rfl)) (S.no 39 (by kernel_rfl)) (by kernel_rfl) (se_var (i := 0) (by kernel_rfl) (.inl (by kernel_rfl)))) (se_one (se_cmp (sop_eq G.sys G.un) (se_var (i := 0) (by kernel_rfl) (.inl (by kernel_rfl))) (se_var (i := 1) (by kernel_rfl) (.inl (by kernel_rfl))) (nomark _))))))
def M_is_within : Sx := (sRet (eAnd (eFn F_is_integer (lCons (eVar 0) lNil)) (eChain (pur leD) (pur leD) (eVar 1) (eVar 0) (eVar 2))))
def F_is_within : Fx := callS .froz M_is_within
theorem p_is_within (S : Says fa fn K mg) : Prm P w K mg base 2 "is_within" ["thing", "low", "high"] .froz F_is_within := by
  have p_is_integer := p_is_integer (P := P) (w := w) (base := base) S
  refine prm_of (N := ["thing", "low", "high"]) (m := M_is_within) S 1 1 (d := mkD "is_within" 2) (by kernel_rfl) (by kernel_rfl) rfl rfl rfl ⟨by kernel_rfl, by kernel_rfl, by kernel_rfl, by decide +kernel, by kernel_rfl, by decide +kernel, by decide +kernel⟩ (fun _ _ _ _ _ _ us hl => match us, hl with | [_, _, _], _ => rfl) fun f cd A outer s W E G hp => ?_
  exact (ss_one (ss_retF (se_and (se_callP G p_is_integer (by decide) (gl_of (by kernel_rfl)) (sa_cons (se_var (i := 0) (by kernel_rfl) (.inl (by kernel_rfl))) sa_nil) (ln_cons ln_nil)) (se_one (se_chain (sop_le G.sys G.un) (sop_le G.sys G.un) (se_var (i := 1) (by kernel_rfl) (.inl (by kernel_rfl))) (se_var (i := 0) (by kernel_rfl) (.inl (by kernel_rfl))) (se_var (i := 2) (by kernel_rfl) (.inl (by kernel_rfl))))))))
def M_is_number : Sx := (sRet (eAnd (eFn F_is_integer (lCons (eVar 0) lNil)) (eBin (pur geD) (eVar 0) (eC (.int 0)))))
def F_is_number : Fx := callS .froz M_is_number
theorem p_is_number (S : Says fa fn K mg) : Prm P w K mg base 2 "is_number" ["thing"] .froz F_is_number := by
  have p_is_integer := p_is_integer (P := P) (w := w) (base := base) S
  refine prm_of (N := ["thing"]) (m := M_is_number) S 2 2 (d := mkD "is_number" 3) (by kernel_rfl) (by kernel_rfl) rfl rfl rfl ⟨by kernel_rfl, by kernel_rfl, by kernel_rfl, by decide +kernel, by kernel_rfl, by decide +kernel, by decide +kernel⟩ (fun _ _ _ _ _ _ us hl => match us, hl with | [_], _ => rfl) fun f cd A outer s W E G hp => ?_
  exact (ss_one (ss_retF (se_and (se_callP G p_is_integer (by decide) (gl_of (by kernel_rfl)) (sa_cons (se_var (i := 0) (by kernel_rfl) (.inl (by kernel_rfl))) sa_nil) (ln_cons ln_nil)) (se_one (se_cmp (sop_ge G.sys G.un) (se_var (i := 0) (by kernel_rfl) (.inl (by kernel_rfl))) se_int (nomark _))))))
def M_right_ones : Sx := (sRet (eLc [1, 2] (iSeq (eFn F_all_messages (lCons (eBin ixD (eVar 0) (eC (.int 0))) lNil))) (gNm 2) (tV (eBin (pur eqD) (eFn (g1 fun d => lift (lenD d)) (lCons (eFn F_odd_of (lCons (eVar 0) (lCons (eVar 2) lNil))) lNil)) (eC (.int 0)))) (eVar 2)))
def F_right_ones : Fx := callS .froz M_right_ones
theorem p_right_ones (S : Says fa fn K mg) : Prm P w K mg base 2 "right_ones" ["guards"] .froz F_right_ones := by
  have p_odd_of := p_odd_of (P := P) (w := w) (base := base) S
  have p_all_messages := p_all_messages (P := P) (w := w) (base := base) S
  refine prm_of (N := ["guards", ".0", "message"]) (m := M_right_ones) S 12 12 (d := mkD "right_ones" 24) (by kernel_rfl) (by kernel_rfl) rfl rfl rfl ⟨by kernel_rfl, by kernel_rfl, by kernel_rfl, by decide +kernel, by kernel_rfl, by decide +kernel, by decide +kernel⟩ (fun _ _ _ _ _ _ us hl => match us, hl with | [_], _ => rfl) fun f cd A outer s W E G hp => ?_
  exact (ss_one (ss_retF (SE.froz (se_lc (own := [(".0", 1), ("message", 2)]) (is := [2]) G.calm G.nd (blkOk_by (by kernel_rfl)) (by decide) (si_seq (se_callP G p_all_messages (by decide) (gl_of (by kernel_rfl)) (sa_cons (se_ix (se_var (i := 0) (by kernel_rfl) (.inr (.inl (by kernel_rfl)))) se_int (fun _ _ => rfl)) sa_nil) (ln_cons ln_nil))) (fun _ _ _ _ _ => (sg_nm (i := 2) ⟨(by exact G.nd), (by kernel_rfl), .inl (by kernel_rfl), .inr (by kernel_rfl)⟩)) (fun _ _ _ _ _ => (sts_one (st_cmp (sop_eq G.sys G.un) (se_fnB sf_len (gl_of (by kernel_rfl)) (S.no 43 (by kernel_rfl)) (by kernel_rfl) (sb_cons (se_callP (G.blk _ _ _ _ _ _) p_odd_of (by decide) (gl_of (by kernel_rfl)) (sa_cons (se_var (i := 0) (by kernel_rfl) (.inr (.inl (by kernel_rfl)))) (sa_cons (se_var (i := 2) (by kernel_rfl) (.inl (by kernel_rfl))) sa_nil)) (ln_cons (ln_cons ln_nil))) sb_nil)) se_int (nomark _)))) (fun _ _ _ _ _ => (se_var (i := 2) (by kernel_rfl) (.inl (by kernel_rfl))))))))
def M__law_some : Sx := (sRet (eBin ixD (eVar 1) (eFn F__law_draw (lCons (eVar 0) (lCons (eFn (g1 fun d => lift (lenD d)) (lCons (eVar 1) lNil)) lNil)))))
def F__law_some : Fx := callS .froz M__law_some
theorem p__law_some (S : Says fa fn K mg) : Prm P w K mg base 2 "_law_some" ["hand", "things"] .froz F__law_some := by
  have p__law_draw := p__law_draw (P := P) (w := w) (base := base) S
  refine prm_of (N := ["hand", "things"]) (m := M__law_some) S 26 26 (d := mkD "_law_some" 39) (by kernel_rfl) (by kernel_rfl) rfl rfl rfl ⟨by kernel_rfl, by kernel_rfl, by kernel_rfl, by decide +kernel, by kernel_rfl, by decide +kernel, by decide +kernel⟩ (fun _ _ _ _ _ _ us hl => match us, hl with | [_, _], _ => rfl) fun f cd A outer s W E G hp => ?_
  exact (ss_one (ss_retF (se_ix (se_var (i := 1) (by kernel_rfl) (.inl (by kernel_rfl))) (se_callP G p__law_draw (by decide) (gl_of (by kernel_rfl)) (sa_cons (se_var (i := 0) (by kernel_rfl) (.inl (by kernel_rfl))) (sa_cons (se_fnB sf_len (gl_of (by kernel_rfl)) (S.no 43 (by kernel_rfl)) (by kernel_rfl) (sb_cons (se_var (i := 1) (by kernel_rfl) (.inl (by kernel_rfl))) sb_nil)) sa_nil)) (ln_cons (ln_cons ln_nil))) (fun _ _ => rfl))))
def M__law_guards : Sx := (sSeq (sSet 2 (eBin (pur addA) (eC (.int 1)) (eFn F__law_draw (lCons (eVar 0) (lCons (eVar 1) lNil))))) (sSeq (sOwn 3 (eLst lNil)) (sSeq (sFor (iRng1S (eFn F__law_draw (lCons (eVar 0) (lCons (eC (.int 6)) lNil)))) (gNm 4) (sSeq (sSet 5 (eFn (g1 fun d => lift (tupD d)) (lCons (eLc [6, 7] (iRng1S (eVar 2)) (gNm 7) (tV (eBin (pur eqD) (eFn F__law_draw (lCons (eVar 0) (lCons (eC (.int 2)) lNil))) (eC (.int 0)))) (eVar 7)) lNil))) (sExt 3 (eBin (pur mulL) (eLst (lCons (eVar 5) lNil)) (eFn (g1 fun d => lift (intD d)) (lCons (eBin (pur gtD) (eFn (g1 fun d => lift (lenD d)) (lCons (eVar 5) lNil)) (eC (.int 0))) lNil)))))) (sRet (eTup (lCons (eVar 2) (lCons (eFn (g1 fun d => lift (tupD d)) (lCons (eVarB 3) lNil)) lNil)))))))
def F__law_guards : Fx := callS .froz M__law_guards
theorem p__law_guards (S : Says fa fn K mg) : Prm P w K mg base 2 "_law_guards" ["hand", "most"] .froz F__law_guards := by
  have p__law_draw := p__law_draw (P := P) (w := w) (base := base) S
  refine prm_of (N := ["hand", "most", "n", "lots", "turn", "lot", ".0", "place"]) (m := M__law_guards) S 28 28 (d := mkD "_law_guards" 41) (by kernel_rfl) (by kernel_rfl) rfl rfl rfl ⟨by kernel_rfl, by kernel_rfl, by kernel_rfl, by decide +kernel, by kernel_rfl, by decide +kernel, by decide +kernel⟩ (fun _ _ _ _ _ _ us hl => match us, hl with | [_, _], _ => rfl) fun f cd A outer s W E G hp => ?_
  exact (ss_cons (ss_set (i := 2) ⟨(by exact G.nd), (by kernel_rfl), .inl (by kernel_rfl), .inl rfl⟩ (se_bin sop_addA se_int (se_callP G p__law_draw (by decide) (gl_of (by kernel_rfl)) (sa_cons (se_var (i := 0) (by kernel_rfl) (.inr (.inl (by kernel_rfl)))) (sa_cons (se_var (i := 1) (by kernel_rfl) (.inl (by kernel_rfl))) sa_nil)) (ln_cons (ln_cons ln_nil))))) (ss_cons (ss_own (i := 3) ⟨(by exact G.nd), (by kernel_rfl), .inl (by kernel_rfl), .inl rfl⟩ (se_lst sa_nil ln_nil)) (ss_cons (ss_for hp G.calm (si_rng1 (gl_of (by kernel_rfl)) (S.no 46 (by kernel_rfl)) (se_callP G p__law_draw (by decide) (gl_of (by kernel_rfl)) (sa_cons (se_var (i := 0) (by kernel_rfl) (.inr (.inl (by kernel_rfl)))) (sa_cons se_int sa_nil)) (ln_cons (ln_cons ln_nil)))) (sg_nm (i := 4) ⟨(by exact G.nd), (by kernel_rfl), .inl (by kernel_rfl), .inl rfl⟩) (ss_cons (ss_set (i := 5) ⟨(by exact G.nd), (by kernel_rfl), .inl (by kernel_rfl), .inl rfl⟩ (se_fnT sf_tup (gl_of (by kernel_rfl)) (S.no 51 (by kernel_rfl)) (by kernel_rfl) (sb_cons (se_lc (own := [(".0", 6), ("place", 7)]) (is := [7]) G.calm G.nd (blkOk_by (by kernel_rfl)) (by decide) (si_rng1 (gl_of (by kernel_rfl)) (S.no 46 (by kernel_rfl)) (se_var (i := 2) (by kernel_rfl) (.inl (by kernel_rfl)))) (fun _ _ _ _ _ => (sg_nm (i := 7) ⟨(by exact G.nd), (by kernel_rfl), .inl (by kernel_rfl), .inr (by kernel_rfl)⟩)) (fun _ _ _ _ _ => (sts_one (st_cmp (sop_eq G.sys G.un) (se_callP (G.blk _ _ _ _ _ _) p__law_draw (by decide) (gl_of (by kernel_rfl)) (sa_cons (se_var (i := 0) (by kernel_rfl) (.inr (.inl (by kernel_rfl)))) (sa_cons se_int sa_nil)) (ln_cons (ln_cons ln_nil))) se_int (nomark _)))) (fun _ _ _ _ _ => (se_var (i := 7) (by kernel_rfl) (.inl (by kernel_rfl))))) sb_nil))) (ss_one (ss_ext (i := 3) ⟨(by exact G.nd), (by kernel_rfl), .inl (by kernel_rfl), .inl rfl⟩ (.inl (by kernel_rfl)) (se_bin sop_mulL (se_lst (sa_cons (se_var (i := 5) (by kernel_rfl) (.inl (by kernel_rfl))) sa_nil) (ln_cons ln_nil)) (se_fnT sf_int (gl_of (by kernel_rfl)) (S.no 41 (by kernel_rfl)) (by kernel_rfl) (sb_cons (se_cmp (sop_gt G.sys G.un) (se_fnB sf_len (gl_of (by kernel_rfl)) (S.no 43 (by kernel_rfl)) (by kernel_rfl) (sb_cons (se_var (i := 5) (by kernel_rfl) (.inl (by kernel_rfl))) sb_nil)) se_int (nomark _)) sb_nil))))))) (ss_one (ss_retF (se_tup (sa_cons (se_var (i := 2) (by kernel_rfl) (.inl (by kernel_rfl))) (sa_cons (se_fnT sf_tup (gl_of (by kernel_rfl)) (S.no 51 (by kernel_rfl)) (by kernel_rfl) (sb_cons (se_varB (i := 3) (by kernel_rfl) (.inl (by kernel_rfl))) sb_nil)) sa_nil)) (ln_cons (ln_cons ln_nil))))))))
def M_is_lot : Sx := (sSeq (sIf (tOr' (tNot' (tV (eIsa PyData.isTuple (eVar 0)))) (tNot' (tV (eFn (g1 fun d => lift (allD d)) (lCons (eLc [2, 3] (iSeq (eVar 0)) (gNm 3) tYesS (eFn F_is_within (lCons (eVar 3) (lCons (eC (.int 0)) (lCons (eBin (pur subD) (eVar 1) (eC (.int 1))) lNil))))) lNil))))) (sRet (eC (.bl false))) sNil) (sRet (eFn (g1 fun d => lift (allD d)) (lCons (eLc [2, 3, 4] (iZipS (eVar 0) (eSl slA (eVar 0) (pAt (eC (.int 1))) pNo)) (gTp (gCs (gNm 3) (gCs (gNm 4) gNl))) tYesS (eBin (pur ltD) (eVar 3) (eVar 4))) lNil))))
def F_is_lot : Fx := callS .froz M_is_lot
theorem p_is_lot (S : Says fa fn K mg) : Prm P w K mg base 3 "is_lot" ["thing", "many"] .froz F_is_lot := by
  have p_is_within := p_is_within (P := P) (w := w) (base := base) S
  refine prm_of (N := ["thing", "many", ".0", "one", "other"]) (m := M_is_lot) S 4 4 (d := mkD "is_lot" 5) (by kernel_rfl) (by kernel_rfl) rfl rfl rfl ⟨by kernel_rfl, by kernel_rfl, by kernel_rfl, by decide +kernel, by kernel_rfl, by decide +kernel, by decide +kernel⟩ (fun _ _ _ _ _ _ us hl => match us, hl with | [_, _], _ => rfl) fun f cd A outer s W E G hp => ?_
  exact (ss_cons (ss_if (SW.st (sw_or (st_not (st_val (se_isa isa_tuple G.sys (gl_of (by kernel_rfl)) (S.no 42 (by kernel_rfl)) (gl_of (by kernel_rfl)) (S.no 51 (by kernel_rfl)) (by kernel_rfl) (se_var (i := 0) (by kernel_rfl) (.inl (by kernel_rfl)))))) (sw_or1 (st_not (st_val (se_fnB (sf_all G.calm G.sys) (gl_of (by kernel_rfl)) (S.no 37 (by kernel_rfl)) (by kernel_rfl) (sb_cons (se_lc (own := [(".0", 2), ("one", 3)]) (is := [3]) G.calm G.nd (blkOk_by (by kernel_rfl)) (by decide) (si_seq (se_var (i := 0) (by kernel_rfl) (.inl (by kernel_rfl)))) (fun _ _ _ _ _ => (sg_nm (i := 3) ⟨(by exact G.nd), (by kernel_rfl), .inl (by kernel_rfl), .inr (by kernel_rfl)⟩)) (fun _ _ _ _ _ => sts_nil) (fun _ _ _ _ _ => (se_callP (G.blk _ _ _ _ _ _) p_is_within (by decide) (gl_of (by kernel_rfl)) (sa_cons (se_var (i := 3) (by kernel_rfl) (.inl (by kernel_rfl))) (sa_cons se_int (sa_cons (se_bin sop_sub (se_var (i := 1) (by kernel_rfl) (.inr (.inl (by kernel_rfl)))) se_int) sa_nil))) (ln_cons (ln_cons (ln_cons ln_nil)))))) sb_nil))))))) (ss_one (ss_retF se_bl)) ss_nil) (ss_one (ss_retF (se_fnB (sf_all G.calm G.sys) (gl_of (by kernel_rfl)) (S.no 37 (by kernel_rfl)) (by kernel_rfl) (sb_cons (se_lc (own := [(".0", 2), ("one", 3), ("other", 4)]) (is := [3, 4]) G.calm G.nd (blkOk_by (by kernel_rfl)) (by decide) (si_zip (gl_of (by kernel_rfl)) (S.no 52 (by kernel_rfl)) (se_var (i := 0) (by kernel_rfl) (.inl (by kernel_rfl))) (se_slA (se_var (i := 0) (by kernel_rfl) (.inl (by kernel_rfl))) (so_at se_int) so_no)) (fun _ _ _ _ _ => (sg_tup (n := 2) G.calm (sg_cons (sg_nm (i := 3) ⟨(by exact G.nd), (by kernel_rfl), .inl (by kernel_rfl), .inr (by kernel_rfl)⟩) (sg_cons (sg_nm (i := 4) ⟨(by exact G.nd), (by kernel_rfl), .inl (by kernel_rfl), .inr (by kernel_rfl)⟩) sg_nil)) (gl_len_cons (gl_len_cons gl_len_nil)))) (fun _ _ _ _ _ => sts_nil) (fun _ _ _ _ _ => (se_cmp (sop_lt G.sys G.un) (se_var (i := 3) (by kernel_rfl) (.inl (by kernel_rfl))) (se_var (i := 4) (by kernel_rfl) (.inl (by kernel_rfl))) (nomark _)))) sb_nil)))))
def M_is_message : Sx := (sRet (eAnd (eFn F_is_tuple (lCons (eVar 0) (lCons (eVar 1) (lCons (eVar 2) lNil)))) (eFn (g1 fun d => lift (allD d)) (lCons (eLc [3, 4] (iSeq (eVar 0)) (gNm 4) tYesS (eFn F_is_within (lCons (eVar 4) (lCons (eC (.int 0)) (lCons (eC (.int 1)) lNil))))) lNil))))
def F_is_message : Fx := callS .froz M_is_message
theorem p_is_message (S : Says fa fn K mg) : Prm P w K mg base 3 "is_message" ["thing", "least", "most"] .froz F_is_message := by
  have p_is_within := p_is_within (P := P) (w := w) (base := base) S
  have p_is_tuple := p_is_tuple (P := P) (w := w) (base := base) S
  refine prm_of (N := ["thing", "least", "most", ".0", "one"]) (m := M_is_message) S 6 6 (d := mkD "is_message" 18) (by kernel_rfl) (by kernel_rfl) rfl rfl rfl ⟨by kernel_rfl, by kernel_rfl, by kernel_rfl, by decide +kernel, by kernel_rfl, by decide +kernel, by decide +kernel⟩ (fun _ _ _ _ _ _ us hl => match us, hl with | [_, _, _], _ => rfl) fun f cd A outer s W E G hp => ?_
  exact (ss_one (ss_retF (se_and (se_callP G p_is_tuple (by decide) (gl_of (by kernel_rfl)) (sa_cons (se_var (i := 0) (by kernel_rfl) (.inl (by kernel_rfl))) (sa_cons (se_var (i := 1) (by kernel_rfl) (.inl (by kernel_rfl))) (sa_cons (se_var (i := 2) (by kernel_rfl) (.inl (by kernel_rfl))) sa_nil))) (ln_cons (ln_cons (ln_cons ln_nil)))) (se_one (se_fnB (sf_all G.calm G.sys) (gl_of (by kernel_rfl)) (S.no 37 (by kernel_rfl)) (by kernel_rfl) (sb_cons (se_lc (own := [(".0", 3), ("one", 4)]) (is := [4]) G.calm G.nd (blkOk_by (by kernel_rfl)) (by decide) (si_seq (se_var (i := 0) (by kernel_rfl) (.inl (by kernel_rfl)))) (fun _ _ _ _ _ => (sg_nm (i := 4) ⟨(by exact G.nd), (by kernel_rfl), .inl (by kernel_rfl), .inr (by kernel_rfl)⟩)) (fun _ _ _ _ _ => sts_nil) (fun _ _ _ _ _ => (se_callP (G.blk _ _ _ _ _ _) p_is_within (by decide) (gl_of (by kernel_rfl)) (sa_cons (se_var (i := 4) (by kernel_rfl) (.inl (by kernel_rfl))) (sa_cons se_int (sa_cons se_int sa_nil))) (ln_cons (ln_cons (ln_cons ln_nil)))))) sb_nil))))))
def M_told : Sx := (sSeq (sSet 2 (eLc [5, 6] (iSeq (eFn F_right_ones (lCons (eVar 0) lNil))) (gNm 6) tYesS (eTup (lCons (eFn F_off_by (lCons (eVar 6) (lCons (eVar 1) lNil))) (lCons (eVar 6) lNil))))) (sSeq (sSet 3 (eBin ixD (eFn (g1 fun d => lift (minD' d)) (lCons (eVar 2) lNil)) (eC (.int 0)))) (sSeq (sSet 4 (eLc [5, 7, 6] (iSeq (eVar 2)) (gTp (gCs (gNm 7) (gCs (gNm 6) gNl))) (tV (eBin (pur eqD) (eVar 7) (eVar 3))) (eVar 6))) (sRet (eIf (tV (eBin (pur eqD) (eFn (g1 fun d => lift (lenD d)) (lCons (eVar 4) lNil)) (eC (.int 1)))) (eTup (lCons (eC (.str "mended")) (lCons (eBin ixD (eVar 4) (eC (.int 0))) lNil))) (eTup (lCons (eC (.str "doubt")) (lCons (eVar 3) (lCons (eFn (g1 fun d => lift (lenD d)) (lCons (eVar 4) lNil)) lNil)))))))))
def F_told : Fx := callS .froz M_told
theorem p_told (S : Says fa fn K mg) : Prm P w K mg base 3 "told" ["guards", "message"] .froz F_told := by
  have p_right_ones := p_right_ones (P := P) (w := w) (base := base) S
  have p_off_by := p_off_by (P := P) (w := w) (base := base) S
  refine prm_of (N := ["guards", "message", "keyed", "least", "some", ".0", "one", "off"]) (m := M_told) S 14 14 (d := mkD "told" 26) (by kernel_rfl) (by kernel_rfl) rfl rfl rfl ⟨by kernel_rfl, by kernel_rfl, by kernel_rfl, by decide +kernel, by kernel_rfl, by decide +kernel, by decide +kernel⟩ (fun _ _ _ _ _ _ us hl => match us, hl with | [_, _], _ => rfl) fun f cd A outer s W E G hp => ?_
  exact (ss_cons (ss_setLc (own := [(".0", 5), ("one", 6)]) (is := [6]) (i := 2) ⟨(by exact G.nd), (by kernel_rfl), .inl (by kernel_rfl), .inl rfl⟩ (by kernel_rfl) G.calm (by kernel_rfl) (blkOk_by (by kernel_rfl)) (by decide) (si_seq (se_callP G p_right_ones (by decide) (gl_of (by kernel_rfl)) (sa_cons (se_var (i := 0) (by kernel_rfl) (.inl (by kernel_rfl))) sa_nil) (ln_cons ln_nil))) (fun _ _ _ _ _ => (sg_nm (i := 6) ⟨(by exact G.nd), (by kernel_rfl), .inl (by kernel_rfl), .inr (by kernel_rfl)⟩)) (fun _ _ _ _ _ => sts_nil) (fun _ _ _ _ _ => (se_tup (sa_cons (se_callP (G.blk _ _ _ _ _ _) p_off_by (by decide) (gl_of (by kernel_rfl)) (sa_cons (se_var (i := 6) (by kernel_rfl) (.inl (by kernel_rfl))) (sa_cons (se_var (i := 1) (by kernel_rfl) (.inr (.inl (by kernel_rfl)))) sa_nil)) (ln_cons (ln_cons ln_nil))) (sa_cons (se_var (i := 6) (by kernel_rfl) (.inl (by kernel_rfl))) sa_nil)) (ln_cons (ln_cons ln_nil))))) (ss_cons (ss_set (i := 3) ⟨(by exact G.nd), (by kernel_rfl), .inr (by kernel_rfl), .inl rfl⟩ (se_ix (se_fnB (sf_min G.calm G.sys G.un) (gl_of (by kernel_rfl)) (S.no 45 (by kernel_rfl)) (by kernel_rfl) (sb_cons (se_var (i := 2) (by kernel_rfl) (.inl (by kernel_rfl))) sb_nil)) se_int (fun _ _ => rfl))) (ss_cons (ss_setLc (own := [(".0", 5), ("off", 7), ("one", 6)]) (is := [7, 6]) (i := 4) ⟨(by exact G.nd), (by kernel_rfl), .inl (by kernel_rfl), .inl rfl⟩ (by kernel_rfl) G.calm (by kernel_rfl) (blkOk_by (by kernel_rfl)) (by decide) (si_seq (se_var (i := 2) (by kernel_rfl) (.inl (by kernel_rfl)))) (fun _ _ _ _ _ => (sg_tup (n := 2) G.calm (sg_cons (sg_nm (i := 7) ⟨(by exact G.nd), (by kernel_rfl), .inl (by kernel_rfl), .inr (by kernel_rfl)⟩) (sg_cons (sg_nm (i := 6) ⟨(by exact G.nd), (by kernel_rfl), .inl (by kernel_rfl), .inr (by kernel_rfl)⟩) sg_nil)) (gl_len_cons (gl_len_cons gl_len_nil)))) (fun _ _ _ _ _ => (sts_one (st_cmp (sop_eq G.sys G.un) (se_var (i := 7) (by kernel_rfl) (.inl (by kernel_rfl))) (se_var (i := 3) (by kernel_rfl) (.inr (.inl (by kernel_rfl)))) (nomark _)))) (fun _ _ _ _ _ => (se_var (i := 6) (by kernel_rfl) (.inl (by kernel_rfl))))) (ss_one (ss_retF (se_if (st_cmp (sop_eq G.sys G.un) (se_fnB sf_len (gl_of (by kernel_rfl)) (S.no 43 (by kernel_rfl)) (by kernel_rfl) (sb_cons (se_var (i := 4) (by kernel_rfl) (.inl (by kernel_rfl))) sb_nil)) se_int (nomark _)) (se_tup (sa_cons se_str (sa_cons (se_ix (se_var (i := 4) (by kernel_rfl) (.inl (by kernel_rfl))) se_int (fun _ _ => rfl)) sa_nil)) (ln_cons (ln_cons ln_nil))) (se_tup (sa_cons se_str (sa_cons (se_var (i := 3) (by kernel_rfl) (.inr (.inl (by kernel_rfl)))) (sa_cons (se_fnB sf_len (gl_of (by kernel_rfl)) (S.no 43 (by kernel_rfl)) (by kernel_rfl) (sb_cons (se_var (i := 4) (by kernel_rfl) (.inl (by kernel_rfl))) sb_nil)) sa_nil))) (ln_cons (ln_cons (ln_cons ln_nil))))))))))
def M_apart : Sx := (sSeq (sSet 1 (eLc [2, 3] (iSeq (eFn F_right_ones (lCons (eVar 0) lNil))) (gNm 3) (tV (eFn (g1 fun d => lift (anyD d)) (lCons (eVar 3) lNil))) (eFn (g1 fun d => lift (sumD d)) (lCons (eVar 3) lNil)))) (sRet (eIf (tV (eBin (pur gtD) (eFn (g1 fun d => lift (lenD d)) (lCons (eVar 1) lNil)) (eC (.int 0)))) (eFn (g1 fun d => lift (minD' d)) (lCons (eVar 1) lNil)) (eC .non))))
def F_apart : Fx := callS .froz M_apart
theorem p_apart (S : Says fa fn K mg) : Prm P w K mg base 3 "apart" ["guards"] .froz F_apart := by
  have p_right_ones := p_right_ones (P := P) (w := w) (base := base) S
  refine prm_of (N := ["guards", "ones", ".0", "message"]) (m := M_apart) S 18 18 (d := mkD "apart" 30) (by kernel_rfl) (by kernel_rfl) rfl rfl rfl ⟨by kernel_rfl, by kernel_rfl, by kernel_rfl, by decide +kernel, by kernel_rfl, by decide +kernel, by decide +kernel⟩ (fun _ _ _ _ _ _ us hl => match us, hl with | [_], _ => rfl) fun f cd A outer s W E G hp => ?_
  exact (ss_cons (ss_setLc (own := [(".0", 2), ("message", 3)]) (is := [3]) (i := 1) ⟨(by exact G.nd), (by kernel_rfl), .inl (by kernel_rfl), .inl rfl⟩ (by kernel_rfl) G.calm (by kernel_rfl) (blkOk_by (by kernel_rfl)) (by decide) (si_seq (se_callP G p_right_ones (by decide) (gl_of (by kernel_rfl)) (sa_cons (se_var (i := 0) (by kernel_rfl) (.inl (by kernel_rfl))) sa_nil) (ln_cons ln_nil))) (fun _ _ _ _ _ => (sg_nm (i := 3) ⟨(by exact G.nd), (by kernel_rfl), .inl (by kernel_rfl), .inr (by kernel_rfl)⟩)) (fun _ _ _ _ _ => (sts_one (st_val (se_fnB (sf_any G.calm G.sys) (gl_of (by kernel_rfl)) (S.no 38 (by kernel_rfl)) (by kernel_rfl) (sb_cons (se_var (i := 3) (by kernel_rfl) (.inl (by kernel_rfl))) sb_nil))))) (fun _ _ _ _ _ => (se_fnB (sf_sum G.calm) (gl_of (by kernel_rfl)) (S.no 49 (by kernel_rfl)) (by kernel_rfl) (sb_cons (se_var (i := 3) (by kernel_rfl) (.inl (by kernel_rfl))) sb_nil)))) (ss_one (ss_retF (se_if (st_cmp (sop_gt G.sys G.un) (se_fnB sf_len (gl_of (by kernel_rfl)) (S.no 43 (by kernel_rfl)) (by kernel_rfl) (sb_cons (se_var (i := 1) (by kernel_rfl) (.inl (by kernel_rfl))) sb_nil)) se_int (nomark _)) (se_fnB (sf_min G.calm G.sys G.un) (gl_of (by kernel_rfl)) (S.no 45 (by kernel_rfl)) (by kernel_rfl) (sb_cons (se_var (i := 1) (by kernel_rfl) (.inl (by kernel_rfl))) sb_nil)) se_non))))
def M__law_deep : Sx := (sSeq (sSet 1 (eTup (lCons (eC (.str "?!")) lNil))) (sSeq (sFor (iRng1S (eFn F__law_draw (lCons (eVar 0) (lCons (eC (.int 30)) lNil)))) (gNm 2) (sSet 1 (eFn F__law_some (lCons (eVar 0) (lCons (eLst (lCons (eTup (lCons (eVar 1) lNil)) (lCons (eLst (lCons (eVar 1) lNil)) (lCons (eDct1 (eC (.int 0)) (eVar 1)) lNil)))) lNil))))) (sRet (eVar 1))))
def F__law_deep : Fx := callS .froz M__law_deep
theorem p__law_deep (S : Says fa fn K mg) : Prm P w K mg base 3 "_law_deep" ["hand"] .froz F__law_deep := by
  have p__law_draw := p__law_draw (P := P) (w := w) (base := base) S
  have p__law_some := p__law_some (P := P) (w := w) (base := base) S
  refine prm_of (N := ["hand", "found", "turn"]) (m := M__law_deep) S 31 31 (d := mkD "_law_deep" 44) (by kernel_rfl) (by kernel_rfl) rfl rfl rfl ⟨by kernel_rfl, by kernel_rfl, by kernel_rfl, by decide +kernel, by kernel_rfl, by decide +kernel, by decide +kernel⟩ (fun _ _ _ _ _ _ us hl => match us, hl with | [_], _ => rfl) fun f cd A outer s W E G hp => ?_
  exact (ss_cons (ss_set (i := 1) ⟨(by exact G.nd), (by kernel_rfl), .inl (by kernel_rfl), .inl rfl⟩ (se_tup (sa_cons se_str sa_nil) (ln_cons ln_nil))) (ss_cons (ss_for hp G.calm (si_rng1 (gl_of (by kernel_rfl)) (S.no 46 (by kernel_rfl)) (se_callP G p__law_draw (by decide) (gl_of (by kernel_rfl)) (sa_cons (se_var (i := 0) (by kernel_rfl) (.inl (by kernel_rfl))) (sa_cons se_int sa_nil)) (ln_cons (ln_cons ln_nil)))) (sg_nm (i := 2) ⟨(by exact G.nd), (by kernel_rfl), .inl (by kernel_rfl), .inl rfl⟩) (ss_one (ss_set (i := 1) ⟨(by exact G.nd), (by kernel_rfl), .inl (by kernel_rfl), .inl rfl⟩ (se_callP G p__law_some (by decide) (gl_of (by kernel_rfl)) (sa_cons (se_var (i := 0) (by kernel_rfl) (.inl (by kernel_rfl))) (sa_cons (SE.froz (se_lst (sa_cons (se_tup (sa_cons (se_var (i := 1) (by kernel_rfl) (.inl (by kernel_rfl))) sa_nil) (ln_cons ln_nil)) (sa_cons (SE.froz (se_lst (sa_cons (se_var (i := 1) (by kernel_rfl) (.inl (by kernel_rfl))) sa_nil) (ln_cons ln_nil))) (sa_cons (SE.froz (se_dct1 se_int (se_var (i := 1) (by kernel_rfl) (.inl (by kernel_rfl))))) sa_nil))) (ln_cons (ln_cons (ln_cons ln_nil))))) sa_nil)) (ln_cons (ln_cons ln_nil)))))) (ss_one (ss_retF (se_var (i := 1) (by kernel_rfl) (.inl (by kernel_rfl)))))))
def M_check_guards : Sx := (sSeq (sIf (tOr' (tNot' (tV (eFn F_is_tuple (lCons (eVar 0) (lCons (eC (.int 2)) (lCons (eC (.int 2)) lNil)))))) (tOr' (tNot' (tV (eFn F_is_within (lCons (eBin ixD (eVar 0) (eC (.int 0))) (lCons (eC (.int 1)) (lCons (eC (.int 8)) lNil)))))) (tNot' (tV (eFn F_is_tuple (lCons (eBin ixD (eVar 0) (eC (.int 1))) (lCons (eC (.int 0)) (lCons (eC (.int 5)) lNil)))))))) sNever sNil) (sIf (tNot' (tV (eFn (g1 fun d => lift (allD d)) (lCons (eLc [1, 2] (iSeq (eBin ixD (eVar 0) (eC (.int 1)))) (gNm 2) tYesS (eAnd (eFn F_is_lot (lCons (eVar 2) (lCons (eBin ixD (eVar 0) (eC (.int 0))) lNil))) (eBin (pur gtD) (eFn (g1 fun d => lift (lenD d)) (lCons (eVar 2) lNil)) (eC (.int 0))))) lNil)))) sNever sNil))
def F_check_guards : Fx := callS .froz M_check_guards
theorem p_check_guards (S : Says fa fn K mg) : Prm P w K mg base 4 "check_guards" ["guards"] .froz F_check_guards := by
  have p_is_within := p_is_within (P := P) (w := w) (base := base) S
  have p_is_tuple := p_is_tuple (P := P) (w := w) (base := base) S
  have p_is_lot := p_is_lot (P := P) (w := w) (base := base) S
  refine prm_of (N := ["guards", ".0", "lot"]) (m := M_check_guards) S 5 5 (d := mkD "check_guards" 17) (by kernel_rfl) (by kernel_rfl) rfl rfl rfl ⟨by kernel_rfl, by kernel_rfl, by kernel_rfl, by decide +kernel, by kernel_rfl, by decide +kernel, by decide +kernel⟩ (fun _ _ _ _ _ _ us hl => match us, hl with | [_], _ => rfl) fun f cd A outer s W E G hp => ?_
  exact (ss_cons (ss_if (SW.st (sw_or (st_not (st_val (se_callP G p_is_tuple (by decide) (gl_of (by kernel_rfl)) (sa_cons (se_var (i := 0) (by kernel_rfl) (.inr (.inl (by kernel_rfl)))) (sa_cons se_int (sa_cons se_int sa_nil))) (ln_cons (ln_cons (ln_cons ln_nil)))))) (sw_or (st_not (st_val (se_callP G p_is_within (by decide) (gl_of (by kernel_rfl)) (sa_cons (se_ix (se_var (i := 0) (by kernel_rfl) (.inr (.inl (by kernel_rfl)))) se_int (fun _ _ => rfl)) (sa_cons se_int (sa_cons (se_gint (S.in_ 53 (by kernel_rfl)) (gl_of (by kernel_rfl))) sa_nil))) (ln_cons (ln_cons (ln_cons ln_nil)))))) (sw_or1 (st_not (st_val (se_callP G p_is_tuple (by decide) (gl_of (by kernel_rfl)) (sa_cons (se_ix (se_var (i := 0) (by kernel_rfl) (.inr (.inl (by kernel_rfl)))) se_int (fun _ _ => rfl)) (sa_cons se_int (sa_cons (se_gint (S.in_ 54 (by kernel_rfl)) (gl_of (by kernel_rfl))) sa_nil))) (ln_cons (ln_cons (ln_cons ln_nil)))))))))) ss_never ss_nil) (ss_one (ss_if (st_not (st_val (se_fnB (sf_all G.calm G.sys) (gl_of (by kernel_rfl)) (S.no 37 (by kernel_rfl)) (by kernel_rfl) (sb_cons (se_lc (own := [(".0", 1), ("lot", 2)]) (is := [2]) G.calm G.nd (blkOk_by (by kernel_rfl)) (by decide) (si_seq (se_ix (se_var (i := 0) (by kernel_rfl) (.inr (.inl (by kernel_rfl)))) se_int (fun _ _ => rfl))) (fun _ _ _ _ _ => (sg_nm (i := 2) ⟨(by exact G.nd), (by kernel_rfl), .inl (by kernel_rfl), .inr (by kernel_rfl)⟩)) (fun _ _ _ _ _ => sts_nil) (fun _ _ _ _ _ => (se_and (se_callP (G.blk _ _ _ _ _ _) p_is_lot (by decide) (gl_of (by kernel_rfl)) (sa_cons (se_var (i := 2) (by kernel_rfl) (.inl (by kernel_rfl))) (sa_cons (se_ix (se_var (i := 0) (by kernel_rfl) (.inr (.inl (by kernel_rfl)))) se_int (fun _ _ => rfl)) sa_nil)) (ln_cons (ln_cons ln_nil))) (se_one (se_cmp (sop_gt G.sys G.un) (se_fnB sf_len (gl_of (by kernel_rfl)) (S.no 43 (by kernel_rfl)) (by kernel_rfl) (sb_cons (se_var (i := 2) (by kernel_rfl) (.inl (by kernel_rfl))) sb_nil)) se_int (nomark _)))))) sb_nil)))) ss_never ss_nil)))
def M_summed : Sx := (sSeq (sFor (iSeq (eTup (lCons (eVar 0) (lCons (eVar 1) lNil)))) (gNm 2) (sIf (tNot' (tV (eFn F_is_message (lCons (eVar 2) (lCons (eC (.int 1)) (lCons (eC (.int 8)) lNil)))))) sNever sNil)) (sSeq (sIf (tV (eBin (pur neD) (eFn (g1 fun d => lift (lenD d)) (lCons (eVar 0) lNil)) (eFn (g1 fun d => lift (lenD d)) (lCons (eVar 1) lNil)))) sNever sNil) (sRet (eFn (g1 fun d => lift (tupD d)) (lCons (eLc [3, 4, 5] (iZipS (eVar 0) (eVar 1)) (gTp (gCs (gNm 4) (gCs (gNm 5) gNl))) tYesS (eBin (pur modD) (eBin (pur addA) (eVar 4) (eVar 5)) (eC (.int 2)))) lNil)))))
def F_summed : Fx := callS .froz M_summed
theorem p_summed (S : Says fa fn K mg) : Prm P w K mg base 4 "summed" ["one", "other"] .froz F_summed := by
  have p_is_message := p_is_message (P := P) (w := w) (base := base) S
  refine prm_of (N := ["one", "other", "message", ".0", "a", "b"]) (m := M_summed) S 23 23 (d := mkD "summed" 35) (by kernel_rfl) (by kernel_rfl) rfl rfl rfl ⟨by kernel_rfl, by kernel_rfl, by kernel_rfl, by decide +kernel, by kernel_rfl, by decide +kernel, by decide +kernel⟩ (fun _ _ _ _ _ _ us hl => match us, hl with | [_, _], _ => rfl) fun f cd A outer s W E G hp => ?_
  exact (ss_cons (ss_for hp G.calm (si_seq (se_tup (sa_cons (se_var (i := 0) (by kernel_rfl) (.inl (by kernel_rfl))) (sa_cons (se_var (i := 1) (by kernel_rfl) (.inl (by kernel_rfl))) sa_nil)) (ln_cons (ln_cons ln_nil)))) (sg_nm (i := 2) ⟨(by exact G.nd), (by kernel_rfl), .inl (by kernel_rfl), .inl rfl⟩) (ss_one (ss_if (st_not (st_val (se_callP G p_is_message (by decide) (gl_of (by kernel_rfl)) (sa_cons (se_var (i := 2) (by kernel_rfl) (.inl (by kernel_rfl))) (sa_cons se_int (sa_cons (se_gint (S.in_ 53 (by kernel_rfl)) (gl_of (by kernel_rfl))) sa_nil))) (ln_cons (ln_cons (ln_cons ln_nil)))))) ss_never ss_nil))) (ss_cons (ss_if (st_cmp (sop_ne G.sys G.un) (se_fnB sf_len (gl_of (by kernel_rfl)) (S.no 43 (by kernel_rfl)) (by kernel_rfl) (sb_cons (se_var (i := 0) (by kernel_rfl) (.inl (by kernel_rfl))) sb_nil)) (se_fnB sf_len (gl_of (by kernel_rfl)) (S.no 43 (by kernel_rfl)) (by kernel_rfl) (sb_cons (se_var (i := 1) (by kernel_rfl) (.inl (by kernel_rfl))) sb_nil)) (nomark _)) ss_never ss_nil) (ss_one (ss_retF (se_fnT sf_tup (gl_of (by kernel_rfl)) (S.no 51 (by kernel_rfl)) (by kernel_rfl) (sb_cons (se_lc (own := [(".0", 3), ("a", 4), ("b", 5)]) (is := [4, 5]) G.calm G.nd (blkOk_by (by kernel_rfl)) (by decide) (si_zip (gl_of (by kernel_rfl)) (S.no 52 (by kernel_rfl)) (se_var (i := 0) (by kernel_rfl) (.inl (by kernel_rfl))) (se_var (i := 1) (by kernel_rfl) (.inl (by kernel_rfl)))) (fun _ _ _ _ _ => (sg_tup (n := 2) G.calm (sg_cons (sg_nm (i := 4) ⟨(by exact G.nd), (by kernel_rfl), .inl (by kernel_rfl), .inr (by kernel_rfl)⟩) (sg_cons (sg_nm (i := 5) ⟨(by exact G.nd), (by kernel_rfl), .inl (by kernel_rfl), .inr (by kernel_rfl)⟩) sg_nil)) (gl_len_cons (gl_len_cons gl_len_nil)))) (fun _ _ _ _ _ => sts_nil) (fun _ _ _ _ _ => (se_bin sop_mod (se_bin sop_addA (se_var (i := 4) (by kernel_rfl) (.inl (by kernel_rfl))) (se_var (i := 5) (by kernel_rfl) (.inl (by kernel_rfl)))) se_int))) sb_nil))))))
def M_check_message : Sx := (sSeq (sDrop (eFn F_check_guards (lCons (eVar 0) lNil))) (sIf (tNot' (tV (eFn F_is_message (lCons (eVar 1) (lCons (eBin ixD (eVar 0) (eC (.int 0))) (lCons (eBin ixD (eVar 0) (eC (.int 0))) lNil)))))) sNever sNil))
def F_check_message : Fx := callS .froz M_check_message
theorem p_check_message (S : Says fa fn K mg) : Prm P w K mg base 5 "check_message" ["guards", "message"] .froz F_check_message := by
  have p_check_guards := p_check_guards (P := P) (w := w) (base := base) S
  have p_is_message := p_is_message (P := P) (w := w) (base := base) S
  refine prm_of (N := ["guards", "message"]) (m := M_check_message) S 7 7 (d := mkD "check_message" 19) (by kernel_rfl) (by kernel_rfl) rfl rfl rfl ⟨by kernel_rfl, by kernel_rfl, by kernel_rfl, by decide +kernel, by kernel_rfl, by decide +kernel, by decide +kernel⟩ (fun _ _ _ _ _ _ us hl => match us, hl with | [_, _], _ => rfl) fun f cd A outer s W E G hp => ?_
  exact (ss_cons (ss_drop (se_callP G p_check_guards (by decide) (gl_of (by kernel_rfl)) (sa_cons (se_var (i := 0) (by kernel_rfl) (.inl (by kernel_rfl))) sa_nil) (ln_cons ln_nil))) (ss_one (ss_if (st_not (st_val (se_callP G p_is_message (by decide) (gl_of (by kernel_rfl)) (sa_cons (se_var (i := 1) (by kernel_rfl) (.inl (by kernel_rfl))) (sa_cons (se_ix (se_var (i := 0) (by kernel_rfl) (.inl (by kernel_rfl))) se_int (fun _ _ => rfl)) (sa_cons (se_ix (se_var (i := 0) (by kernel_rfl) (.inl (by kernel_rfl))) se_int (fun _ _ => rfl)) sa_nil))) (ln_cons (ln_cons (ln_cons ln_nil)))))) ss_never ss_nil)))
def M_right_count : Sx := (sSeq (sDrop (eFn F_check_guards (lCons (eVar 0) lNil))) (sRet (eFn (g1 fun d => lift (lenD d)) (lCons (eFn F_right_ones (lCons (eVar 0) lNil)) lNil))))
def F_right_count : Fx := callS .froz M_right_count
theorem p_right_count (S : Says fa fn K mg) : Prm P w K mg base 5 "right_count" ["guards"] .froz F_right_count := by
  have p_check_guards := p_check_guards (P := P) (w := w) (base := base) S
  have p_right_ones := p_right_ones (P := P) (w := w) (base := base) S
  refine prm_of (N := ["guards"]) (m := M_right_count) S 17 17 (d := mkD "right_count" 29) (by kernel_rfl) (by kernel_rfl) rfl rfl rfl ⟨by kernel_rfl, by kernel_rfl, by kernel_rfl, by decide +kernel, by kernel_rfl, by decide +kernel, by decide +kernel⟩ (fun _ _ _ _ _ _ us hl => match us, hl with | [_], _ => rfl) fun f cd A outer s W E G hp => ?_
  exact (ss_cons (ss_drop (se_callP G p_check_guards (by decide) (gl_of (by kernel_rfl)) (sa_cons (se_var (i := 0) (by kernel_rfl) (.inl (by kernel_rfl))) sa_nil) (ln_cons ln_nil))) (ss_one (ss_retF (se_fnB sf_len (gl_of (by kernel_rfl)) (S.no 43 (by kernel_rfl)) (by kernel_rfl) (sb_cons (se_callP G p_right_ones (by decide) (gl_of (by kernel_rfl)) (sa_cons (se_var (i := 0) (by kernel_rfl) (.inl (by kernel_rfl))) sa_nil) (ln_cons ln_nil)) sb_nil)))))
def M_least_apart : Sx := (sSeq (sDrop (eFn F_check_guards (lCons (eVar 0) lNil))) (sRet (eFn F_apart (lCons (eVar 0) lNil))))
def F_least_apart : Fx := callS .froz M_least_apart
theorem p_least_apart (S : Says fa fn K mg) : Prm P w K mg base 5 "least_apart" ["guards"] .froz F_least_apart := by
  have p_check_guards := p_check_guards (P := P) (w := w) (base := base) S
  have p_apart := p_apart (P := P) (w := w) (base := base) S
  refine prm_of (N := ["guards"]) (m := M_least_apart) S 19 19 (d := mkD "least_apart" 31) (by kernel_rfl) (by kernel_rfl) rfl rfl rfl ⟨by kernel_rfl, by kernel_rfl, by kernel_rfl, by decide +kernel, by kernel_rfl, by decide +kernel, by decide +kernel⟩ (fun _ _ _ _ _ _ us hl => match us, hl with | [_], _ => rfl) fun f cd A outer s W E G hp => ?_
  exact (ss_cons (ss_drop (se_callP G p_check_guards (by decide) (gl_of (by kernel_rfl)) (sa_cons (se_var (i := 0) (by kernel_rfl) (.inl (by kernel_rfl))) sa_nil) (ln_cons ln_nil))) (ss_one (ss_retF (se_callP G p_apart (by decide) (gl_of (by kernel_rfl)) (sa_cons (se_var (i := 0) (by kernel_rfl) (.inl (by kernel_rfl))) sa_nil) (ln_cons ln_nil)))))
def M_mends : Sx := (sSeq (sDrop (eFn F_check_guards (lCons (eVar 0) lNil))) (sSeq (sIf (tNot' (tV (eFn F_is_within (lCons (eVar 1) (lCons (eC (.int 0)) (lCons (eC (.int 8)) lNil)))))) sNever sNil) (sSeq (sSet 2 (eFn F_apart (lCons (eVar 0) lNil))) (sRet (eOr (eBin (pur isOp) (eVar 2) (eC .non)) (eBin (pur gtD) (eVar 2) (eBin (pur mulA) (eC (.int 2)) (eVar 1))))))))
def F_mends : Fx := callS .froz M_mends
theorem p_mends (S : Says fa fn K mg) : Prm P w K mg base 5 "mends" ["guards", "k"] .froz F_mends := by
  have p_is_within := p_is_within (P := P) (w := w) (base := base) S
  have p_check_guards := p_check_guards (P := P) (w := w) (base := base) S
  have p_apart := p_apart (P := P) (w := w) (base := base) S
  refine prm_of (N := ["guards", "k", "least"]) (m := M_mends) S 20 20 (d := mkD "mends" 32) (by kernel_rfl) (by kernel_rfl) rfl rfl rfl ⟨by kernel_rfl, by kernel_rfl, by kernel_rfl, by decide +kernel, by kernel_rfl, by decide +kernel, by decide +kernel⟩ (fun _ _ _ _ _ _ us hl => match us, hl with | [_, _], _ => rfl) fun f cd A outer s W E G hp => ?_
  exact (ss_cons (ss_drop (se_callP G p_check_guards (by decide) (gl_of (by kernel_rfl)) (sa_cons (se_var (i := 0) (by kernel_rfl) (.inl (by kernel_rfl))) sa_nil) (ln_cons ln_nil))) (ss_cons (ss_if (st_not (st_val (se_callP G p_is_within (by decide) (gl_of (by kernel_rfl)) (sa_cons (se_var (i := 1) (by kernel_rfl) (.inl (by kernel_rfl))) (sa_cons se_int (sa_cons (se_gint (S.in_ 53 (by kernel_rfl)) (gl_of (by kernel_rfl))) sa_nil))) (ln_cons (ln_cons (ln_cons ln_nil)))))) ss_never ss_nil) (ss_cons (ss_set (i := 2) ⟨(by exact G.nd), (by kernel_rfl), .inl (by kernel_rfl), .inl rfl⟩ (se_callP G p_apart (by decide) (gl_of (by kernel_rfl)) (sa_cons (se_var (i := 0) (by kernel_rfl) (.inl (by kernel_rfl))) sa_nil) (ln_cons ln_nil))) (ss_one (ss_retF (se_or (se_cmp sop_is (se_var (i := 2) (by kernel_rfl) (.inl (by kernel_rfl))) se_non (nomark _)) (se_one (se_cmp (sop_gt G.sys G.un) (se_var (i := 2) (by kernel_rfl) (.inl (by kernel_rfl))) (se_bin sop_mulA se_int (se_var (i := 1) (by kernel_rfl) (.inl (by kernel_rfl)))) (nomark _)))))))))
def M_filled : Sx := (sSeq (sDrop (eFn F_check_guards (lCons (eVar 0) lNil))) (sSeq (sSet 2 (eBin ixD (eVar 0) (eC (.int 0)))) (sSeq (sIf (tOr' (tNot' (tV (eFn F_is_tuple (lCons (eVar 1) (lCons (eVar 2) (lCons (eVar 2) lNil)))))) (tNot' (tV (eFn (g1 fun d => lift (allD d)) (lCons (eLc [4, 5] (iSeq (eVar 1)) (gNm 5) tYesS (eOr (eBin (pur isOp) (eVar 5) (eC .non)) (eFn F_is_within (lCons (eVar 5) (lCons (eC (.int 0)) (lCons (eC (.int 1)) lNil)))))) lNil))))) sNever sNil) (sSeq (sIf (tNot' (tV (eChain (pur leD) (pur leD) (eC (.int 1)) (eMt kCount (fun d => g1 fun x => lift (countD d x)) (eVar 1) (lCons (eC .non) lNil)) (eC (.int 4))))) sNever sNil) (sSeq (sSet 3 (eFn F_right_ones (lCons (eVar 0) lNil))) (sRet (eFn (g1 fun d => lift (tupD d)) (lCons (eLc [4, 5] (iSeq (eVar 3)) (gNm 5) (tV (eFn (g1 fun d => lift (allD d)) (lCons (eLc [4, 6, 7] (iZipS (eVar 5) (eVar 1)) (gTp (gCs (gNm 6) (gCs (gNm 7) gNl))) tYesS (eOr (eBin (pur isOp) (eVar 7) (eC .non)) (eBin (pur eqD) (eVar 6) (eVar 7)))) lNil))) (eVar 5)) lNil))))))))
def F_filled : Fx := callS .froz M_filled
theorem p_filled (S : Says fa fn K mg) : Prm P w K mg base 5 "filled" ["guards", "message"] .froz F_filled := by
  have p_is_within := p_is_within (P := P) (w := w) (base := base) S
  have p_is_tuple := p_is_tuple (P := P) (w := w) (base := base) S
  have p_check_guards := p_check_guards (P := P) (w := w) (base := base) S
  have p_right_ones := p_right_ones (P := P) (w := w) (base := base) S
  refine prm_of (N := ["guards", "message", "n", "some", ".0", "one", "a", "b"]) (m := M_filled) S 21 21 (d := mkD "filled" 33) (by kernel_rfl) (by kernel_rfl) rfl rfl rfl ⟨by kernel_rfl, by kernel_rfl, by kernel_rfl, by decide +kernel, by kernel_rfl, by decide +kernel, by decide +kernel⟩ (fun _ _ _ _ _ _ us hl => match us, hl with | [_, _], _ => rfl) fun f cd A outer s W E G hp => ?_
  exact (ss_cons (ss_drop (se_callP G p_check_guards (by decide) (gl_of (by kernel_rfl)) (sa_cons (se_var (i := 0) (by kernel_rfl) (.inl (by kernel_rfl))) sa_nil) (ln_cons ln_nil))) (ss_cons (ss_set (i := 2) ⟨(by exact G.nd), (by kernel_rfl), .inl (by kernel_rfl), .inl rfl⟩ (se_ix (se_var (i := 0) (by kernel_rfl) (.inl (by kernel_rfl))) se_int (fun _ _ => rfl))) (ss_cons (ss_if (SW.st (sw_or (st_not (st_val (se_callP G p_is_tuple (by decide) (gl_of (by kernel_rfl)) (sa_cons (se_var (i := 1) (by kernel_rfl) (.inr (.inl (by kernel_rfl)))) (sa_cons (se_var (i := 2) (by kernel_rfl) (.inl (by kernel_rfl))) (sa_cons (se_var (i := 2) (by kernel_rfl) (.inl (by kernel_rfl))) sa_nil))) (ln_cons (ln_cons (ln_cons ln_nil)))))) (sw_or1 (st_not (st_val (se_fnB (sf_all G.calm G.sys) (gl_of (by kernel_rfl)) (S.no 37 (by kernel_rfl)) (by kernel_rfl) (sb_cons (se_lc (own := [(".0", 4), ("one", 5)]) (is := [5]) G.calm G.nd (blkOk_by (by kernel_rfl)) (by decide) (si_seq (se_var (i := 1) (by kernel_rfl) (.inr (.inl (by kernel_rfl))))) (fun _ _ _ _ _ => (sg_nm (i := 5) ⟨(by exact G.nd), (by kernel_rfl), .inl (by kernel_rfl), .inr (by kernel_rfl)⟩)) (fun _ _ _ _ _ => sts_nil) (fun _ _ _ _ _ => (se_or (se_cmp sop_is (se_var (i := 5) (by kernel_rfl) (.inl (by kernel_rfl))) se_non (nomark _)) (se_one (se_callP (G.blk _ _ _ _ _ _) p_is_within (by decide) (gl_of (by kernel_rfl)) (sa_cons (se_var (i := 5) (by kernel_rfl) (.inl (by kernel_rfl))) (sa_cons se_int (sa_cons se_int sa_nil))) (ln_cons (ln_cons (ln_cons ln_nil)))))))) sb_nil))))))) ss_never ss_nil) (ss_cons (ss_if (st_not (st_chain (sop_le G.sys G.un) (sop_le G.sys G.un) se_int (se_count G.sys G.un (se_var (i := 1) (by kernel_rfl) (.inr (.inl (by kernel_rfl)))) (sb_cons se_non sb_nil)) (se_gint (S.in_ 55 (by kernel_rfl)) (gl_of (by kernel_rfl))))) ss_never ss_nil) (ss_cons (ss_set (i := 3) ⟨(by exact G.nd), (by kernel_rfl), .inl (by kernel_rfl), .inl rfl⟩ (se_callP G p_right_ones (by decide) (gl_of (by kernel_rfl)) (sa_cons (se_var (i := 0) (by kernel_rfl) (.inl (by kernel_rfl))) sa_nil) (ln_cons ln_nil))) (ss_one (ss_retF (se_fnT sf_tup (gl_of (by kernel_rfl)) (S.no 51 (by kernel_rfl)) (by kernel_rfl) (sb_cons (se_lc (own := [(".0", 4), ("one", 5)]) (is := [5]) G.calm G.nd (blkOk_by (by kernel_rfl)) (by decide) (si_seq (se_var (i := 3) (by kernel_rfl) (.inl (by kernel_rfl)))) (fun _ _ _ _ _ => (sg_nm (i := 5) ⟨(by exact G.nd), (by kernel_rfl), .inl (by kernel_rfl), .inr (by kernel_rfl)⟩)) (fun _ _ _ _ _ => (sts_one (st_val (se_fnB (sf_all G.calm G.sys) (gl_of (by kernel_rfl)) (S.no 37 (by kernel_rfl)) (by kernel_rfl) (sb_cons (se_lc (own := [(".0", 4), ("a", 6), ("b", 7)]) (is := [6, 7]) G.calm G.nd (blkOk_by (by kernel_rfl)) (by decide) (si_zip (gl_of (by kernel_rfl)) (S.no 52 (by kernel_rfl)) (se_var (i := 5) (by kernel_rfl) (.inl (by kernel_rfl))) (se_var (i := 1) (by kernel_rfl) (.inr (.inl (by kernel_rfl))))) (fun _ _ _ _ _ => (sg_tup (n := 2) G.calm (sg_cons (sg_nm (i := 6) ⟨(by exact G.nd), (by kernel_rfl), .inl (by kernel_rfl), .inr (by kernel_rfl)⟩) (sg_cons (sg_nm (i := 7) ⟨(by exact G.nd), (by kernel_rfl), .inl (by kernel_rfl), .inr (by kernel_rfl)⟩) sg_nil)) (gl_len_cons (gl_len_cons gl_len_nil)))) (fun _ _ _ _ _ => sts_nil) (fun _ _ _ _ _ => (se_or (se_cmp sop_is (se_var (i := 7) (by kernel_rfl) (.inl (by kernel_rfl))) se_non (nomark _)) (se_one (se_cmp (sop_eq G.sys G.un) (se_var (i := 6) (by kernel_rfl) (.inl (by kernel_rfl))) (se_var (i := 7) (by kernel_rfl) (.inl (by kernel_rfl))) (nomark _)))))) sb_nil))))) (fun _ _ _ _ _ => (se_var (i := 5) (by kernel_rfl) (.inl (by kernel_rfl))))) sb_nil)))))))))
def M_needless_lots : Sx := (sSeq (sDrop (eFn F_check_guards (lCons (eVar 0) lNil))) (sSeq (sAsg (gTp (gCs (gNm 1) (gCs (gNm 2) gNl))) (eVar 0)) (sSeq (sSet 3 (eFn (g1 fun d => lift (lenD d)) (lCons (eFn F_right_ones (lCons (eVar 0) lNil)) lNil))) (sRet (eFn (g1 fun d => lift (tupD d)) (lCons (eLc [4, 5] (iRng1S (eFn (g1 fun d => lift (lenD d)) (lCons (eVar 2) lNil))) (gNm 5) (tV (eBin (pur eqD) (eFn (g1 fun d => lift (lenD d)) (lCons (eFn F_right_ones (lCons (eTup (lCons (eVar 1) (lCons (eBin (pur addA) (eSl slA (eVar 2) pNo (pAt (eVar 5))) (eSl slA (eVar 2) (pAt (eBin (pur addA) (eVar 5) (eC (.int 1)))) pNo)) lNil))) lNil)) lNil)) (eVar 3))) (eVar 5)) lNil))))))
def F_needless_lots : Fx := callS .froz M_needless_lots
theorem p_needless_lots (S : Says fa fn K mg) : Prm P w K mg base 5 "needless_lots" ["guards"] .froz F_needless_lots := by
  have p_check_guards := p_check_guards (P := P) (w := w) (base := base) S
  have p_right_ones := p_right_ones (P := P) (w := w) (base := base) S
  refine prm_of (N := ["guards", "n", "lots", "many", ".0", "k"]) (m := M_needless_lots) S 22 22 (d := mkD "needless_lots" 34) (by kernel_rfl) (by kernel_rfl) rfl rfl rfl ⟨by kernel_rfl, by kernel_rfl, by kernel_rfl, by decide +kernel, by kernel_rfl, by decide +kernel, by decide +kernel⟩ (fun _ _ _ _ _ _ us hl => match us, hl with | [_], _ => rfl) fun f cd A outer s W E G hp => ?_
  exact (ss_cons (ss_drop (se_callP G p_check_guards (by decide) (gl_of (by kernel_rfl)) (sa_cons (se_var (i := 0) (by kernel_rfl) (.inl (by kernel_rfl))) sa_nil) (ln_cons ln_nil))) (ss_cons (ss_asg (se_var (i := 0) (by kernel_rfl) (.inl (by kernel_rfl))) (sg_tup (n := 2) G.calm (sg_cons (sg_nm (i := 1) ⟨(by exact G.nd), (by kernel_rfl), .inr (by kernel_rfl), .inl rfl⟩) (sg_cons (sg_nm (i := 2) ⟨(by exact G.nd), (by kernel_rfl), .inr (by kernel_rfl), .inl rfl⟩) sg_nil)) (gl_len_cons (gl_len_cons gl_len_nil)))) (ss_cons (ss_set (i := 3) ⟨(by exact G.nd), (by kernel_rfl), .inr (by kernel_rfl), .inl rfl⟩ (se_fnB sf_len (gl_of (by kernel_rfl)) (S.no 43 (by kernel_rfl)) (by kernel_rfl) (sb_cons (se_callP G p_right_ones (by decide) (gl_of (by kernel_rfl)) (sa_cons (se_var (i := 0) (by kernel_rfl) (.inl (by kernel_rfl))) sa_nil) (ln_cons ln_nil)) sb_nil))) (ss_one (ss_retF (se_fnT sf_tup (gl_of (by kernel_rfl)) (S.no 51 (by kernel_rfl)) (by kernel_rfl) (sb_cons (se_lc (own := [(".0", 4), ("k", 5)]) (is := [5]) G.calm G.nd (blkOk_by (by kernel_rfl)) (by decide) (si_rng1 (gl_of (by kernel_rfl)) (S.no 46 (by kernel_rfl)) (se_fnB sf_len (gl_of (by kernel_rfl)) (S.no 43 (by kernel_rfl)) (by kernel_rfl) (sb_cons (se_var (i := 2) (by kernel_rfl) (.inr (.inl (by kernel_rfl)))) sb_nil))) (fun _ _ _ _ _ => (sg_nm (i := 5) ⟨(by exact G.nd), (by kernel_rfl), .inl (by kernel_rfl), .inr (by kernel_rfl)⟩)) (fun _ _ _ _ _ => (sts_one (st_cmp (sop_eq G.sys G.un) (se_fnB sf_len (gl_of (by kernel_rfl)) (S.no 43 (by kernel_rfl)) (by kernel_rfl) (sb_cons (se_callP (G.blk _ _ _ _ _ _) p_right_ones (by decide) (gl_of (by kernel_rfl)) (sa_cons (se_tup (sa_cons (se_var (i := 1) (by kernel_rfl) (.inr (.inl (by kernel_rfl)))) (sa_cons (se_bin sop_addA (se_slA (se_var (i := 2) (by kernel_rfl) (.inr (.inl (by kernel_rfl)))) so_no (so_at (se_var (i := 5) (by kernel_rfl) (.inl (by kernel_rfl))))) (se_slA (se_var (i := 2) (by kernel_rfl) (.inr (.inl (by kernel_rfl)))) (so_at (se_bin sop_addA (se_var (i := 5) (by kernel_rfl) (.inl (by kernel_rfl))) se_int)) so_no)) sa_nil)) (ln_cons (ln_cons ln_nil))) sa_nil) (ln_cons ln_nil)) sb_nil)) (se_var (i := 3) (by kernel_rfl) (.inr (.inl (by kernel_rfl)))) (nomark _)))) (fun _ _ _ _ _ => (se_var (i := 5) (by kernel_rfl) (.inl (by kernel_rfl))))) sb_nil)))))))
def M_right_or_odd : Sx := (sSeq (sDrop (eFn F_check_message (lCons (eVar 0) (lCons (eVar 1) lNil)))) (sSeq (sSet 2 (eFn F_odd_of (lCons (eVar 0) (lCons (eVar 1) lNil)))) (sRet (eIf (tV (eBin (pur gtD) (eFn (g1 fun d => lift (lenD d)) (lCons (eVar 2) lNil)) (eC (.int 0)))) (eTup (lCons (eC (.str "odd")) (lCons (eVar 2) lNil))) (eTup (lCons (eC (.str "right")) lNil))))))
def F_right_or_odd : Fx := callS .froz M_right_or_odd
theorem p_right_or_odd (S : Says fa fn K mg) : Prm P w K mg base 6 "right_or_odd" ["guards", "message"] .froz F_right_or_odd := by
  have p_check_message := p_check_message (P := P) (w := w) (base := base) S
  have p_odd_of := p_odd_of (P := P) (w := w) (base := base) S
  refine prm_of (N := ["guards", "message", "some"]) (m := M_right_or_odd) S 9 9 (d := mkD "right_or_odd" 21) (by kernel_rfl) (by kernel_rfl) rfl rfl rfl ⟨by kernel_rfl, by kernel_rfl, by kernel_rfl, by decide +kernel, by kernel_rfl, by decide +kernel, by decide +kernel⟩ (fun _ _ _ _ _ _ us hl => match us, hl with | [_, _], _ => rfl) fun f cd A outer s W E G hp => ?_
  exact (ss_cons (ss_drop (se_callP G p_check_message (by decide) (gl_of (by kernel_rfl)) (sa_cons (se_var (i := 0) (by kernel_rfl) (.inl (by kernel_rfl))) (sa_cons (se_var (i := 1) (by kernel_rfl) (.inl (by kernel_rfl))) sa_nil)) (ln_cons (ln_cons ln_nil)))) (ss_cons (ss_set (i := 2) ⟨(by exact G.nd), (by kernel_rfl), .inl (by kernel_rfl), .inl rfl⟩ (se_callP G p_odd_of (by decide) (gl_of (by kernel_rfl)) (sa_cons (se_var (i := 0) (by kernel_rfl) (.inl (by kernel_rfl))) (sa_cons (se_var (i := 1) (by kernel_rfl) (.inl (by kernel_rfl))) sa_nil)) (ln_cons (ln_cons ln_nil)))) (ss_one (ss_retF (se_if (st_cmp (sop_gt G.sys G.un) (se_fnB sf_len (gl_of (by kernel_rfl)) (S.no 43 (by kernel_rfl)) (by kernel_rfl) (sb_cons (se_var (i := 2) (by kernel_rfl) (.inl (by kernel_rfl))) sb_nil)) se_int (nomark _)) (se_tup (sa_cons se_str (sa_cons (se_var (i := 2) (by kernel_rfl) (.inl (by kernel_rfl))) sa_nil)) (ln_cons (ln_cons ln_nil))) (se_tup (sa_cons se_str sa_nil) (ln_cons ln_nil)))))))
def M_is_right_or_odd : Sx := (sSeq (sDrop (eFn F_check_message (lCons (eVar 0) (lCons (eVar 1) lNil)))) (sSeq (sIf (tOr' (tNot' (tV (eFn F_is_tuple (lCons (eVar 2) (lCons (eC (.int 1)) (lCons (eC (.int 2)) lNil)))))) (tNot' (tV (eIsa PyData.isStr (eBin ixD (eVar 2) (eC (.int 0))))))) (sRet (eC (.bl false))) sNil) (sSeq (sSet 3 (eFn F_odd_of (lCons (eVar 0) (lCons (eVar 1) lNil)))) (sSeq (sIf (tV (eBin (pur eqD) (eBin ixD (eVar 2) (eC (.int 0))) (eC (.str "right")))) (sRet (eAnd (eBin (pur eqD) (eFn (g1 fun d => lift (lenD d)) (lCons (eVar 2) lNil)) (eC (.int 1))) (eBin (pur eqD) (eFn (g1 fun d => lift (lenD d)) (lCons (eVar 3) lNil)) (eC (.int 0))))) sNil) (sSeq (sIf (tOr' (tV (eBin (pur neD) (eBin ixD (eVar 2) (eC (.int 0))) (eC (.str "odd")))) (tOr' (tV (eBin (pur neD) (eFn (g1 fun d => lift (lenD d)) (lCons (eVar 2) lNil)) (eC (.int 2)))) (tV (eBin (pur eqD) (eFn (g1 fun d => lift (lenD d)) (lCons (eVar 3) lNil)) (eC (.int 0)))))) (sRet (eC (.bl false))) sNil) (sRet (eAnd (eFn F_is_lot (lCons (eBin ixD (eVar 2) (eC (.int 1))) (lCons (eC (.int 5)) lNil))) (eBin (pur eqD) (eBin ixD (eVar 2) (eC (.int 1))) (eVar 3)))))))))
def F_is_right_or_odd : Fx := callS .froz M_is_right_or_odd
theorem p_is_right_or_odd (S : Says fa fn K mg) : Prm P w K mg base 6 "is_right_or_odd" ["guards", "message", "thing"] .froz F_is_right_or_odd := by
  have p_is_tuple := p_is_tuple (P := P) (w := w) (base := base) S
  have p_is_lot := p_is_lot (P := P) (w := w) (base := base) S
  have p_check_message := p_check_message (P := P) (w := w) (base := base) S
  have p_odd_of := p_odd_of (P := P) (w := w) (base := base) S
  refine prm_of (N := ["guards", "message", "thing", "some"]) (m := M_is_right_or_odd) S 10 10 (d := mkD "is_right_or_odd" 22) (by kernel_rfl) (by kernel_rfl) rfl rfl rfl ⟨by kernel_rfl, by kernel_rfl, by kernel_rfl, by decide +kernel, by kernel_rfl, by decide +kernel, by decide +kernel⟩ (fun _ _ _ _ _ _ us hl => match us, hl with | [_, _, _], _ => rfl) fun f cd A outer s W E G hp => ?_
  exact (ss_cons (ss_drop (se_callP G p_check_message (by decide) (gl_of (by kernel_rfl)) (sa_cons (se_var (i := 0) (by kernel_rfl) (.inl (by kernel_rfl))) (sa_cons (se_var (i := 1) (by kernel_rfl) (.inl (by kernel_rfl))) sa_nil)) (ln_cons (ln_cons ln_nil)))) (ss_cons (ss_if (SW.st (sw_or (st_not (st_val (se_callP G p_is_tuple (by decide) (gl_of (by kernel_rfl)) (sa_cons (se_var (i := 2) (by kernel_rfl) (.inl (by kernel_rfl))) (sa_cons se_int (sa_cons se_int sa_nil))) (ln_cons (ln_cons (ln_cons ln_nil)))))) (sw_or1 (st_not (st_val (se_isa isa_str G.sys (gl_of (by kernel_rfl)) (S.no 42 (by kernel_rfl)) (gl_of (by kernel_rfl)) (S.no 48 (by kernel_rfl)) (by kernel_rfl) (se_ix (se_var (i := 2) (by kernel_rfl) (.inl (by kernel_rfl))) se_int (fun _ _ => rfl)))))))) (ss_one (ss_retF se_bl)) ss_nil) (ss_cons (ss_set (i := 3) ⟨(by exact G.nd), (by kernel_rfl), .inl (by kernel_rfl), .inl rfl⟩ (se_callP G p_odd_of (by decide) (gl_of (by kernel_rfl)) (sa_cons (se_var (i := 0) (by kernel_rfl) (.inl (by kernel_rfl))) (sa_cons (se_var (i := 1) (by kernel_rfl) (.inl (by kernel_rfl))) sa_nil)) (ln_cons (ln_cons ln_nil)))) (ss_cons (ss_if (st_cmp (sop_eq G.sys G.un) (se_ix (se_var (i := 2) (by kernel_rfl) (.inl (by kernel_rfl))) se_int (fun _ _ => rfl)) se_str (nomark _)) (ss_one (ss_retF (se_and (se_cmp (sop_eq G.sys G.un) (se_fnB sf_len (gl_of (by kernel_rfl)) (S.no 43 (by kernel_rfl)) (by kernel_rfl) (sb_cons (se_var (i := 2) (by kernel_rfl) (.inl (by kernel_rfl))) sb_nil)) se_int (nomark _)) (se_one (se_cmp (sop_eq G.sys G.un) (se_fnB sf_len (gl_of (by kernel_rfl)) (S.no 43 (by kernel_rfl)) (by kernel_rfl) (sb_cons (se_var (i := 3) (by kernel_rfl) (.inl (by kernel_rfl))) sb_nil)) se_int (nomark _)))))) ss_nil) (ss_cons (ss_if (SW.st (sw_or (st_cmp (sop_ne G.sys G.un) (se_ix (se_var (i := 2) (by kernel_rfl) (.inl (by kernel_rfl))) se_int (fun _ _ => rfl)) se_str (nomark _)) (sw_or (st_cmp (sop_ne G.sys G.un) (se_fnB sf_len (gl_of (by kernel_rfl)) (S.no 43 (by kernel_rfl)) (by kernel_rfl) (sb_cons (se_var (i := 2) (by kernel_rfl) (.inl (by kernel_rfl))) sb_nil)) se_int (nomark _)) (sw_or1 (st_cmp (sop_eq G.sys G.un) (se_fnB sf_len (gl_of (by kernel_rfl)) (S.no 43 (by kernel_rfl)) (by kernel_rfl) (sb_cons (se_var (i := 3) (by kernel_rfl) (.inl (by kernel_rfl))) sb_nil)) se_int (nomark _)))))) (ss_one (ss_retF se_bl)) ss_nil) (ss_one (ss_retF (se_and (se_callP G p_is_lot (by decide) (gl_of (by kernel_rfl)) (sa_cons (se_ix (se_var (i := 2) (by kernel_rfl) (.inl (by kernel_rfl))) se_int (fun _ _ => rfl)) (sa_cons (se_gint (S.in_ 54 (by kernel_rfl)) (gl_of (by kernel_rfl))) sa_nil)) (ln_cons (ln_cons ln_nil))) (se_one (se_cmp (sop_eq G.sys G.un) (se_ix (se_var (i := 2) (by kernel_rfl) (.inl (by kernel_rfl))) se_int (fun _ _ => rfl)) (se_var (i := 3) (by kernel_rfl) (.inl (by kernel_rfl))) (nomark _)))))))))))
def M_mended_or_doubt : Sx := (sSeq (sDrop (eFn F_check_message (lCons (eVar 0) (lCons (eVar 1) lNil)))) (sRet (eFn F_told (lCons (eVar 0) (lCons (eVar 1) lNil)))))
def F_mended_or_doubt : Fx := callS .froz M_mended_or_doubt
theorem p_mended_or_doubt (S : Says fa fn K mg) : Prm P w K mg base 6 "mended_or_doubt" ["guards", "message"] .froz F_mended_or_doubt := by
  have p_check_message := p_check_message (P := P) (w := w) (base := base) S
  have p_told := p_told (P := P) (w := w) (base := base) S
  refine prm_of (N := ["guards", "message"]) (m := M_mended_or_doubt) S 15 15 (d := mkD "mended_or_doubt" 27) (by kernel_rfl) (by kernel_rfl) rfl rfl rfl ⟨by kernel_rfl, by kernel_rfl, by kernel_rfl, by decide +kernel, by kernel_rfl, by decide +kernel, by decide +kernel⟩ (fun _ _ _ _ _ _ us hl => match us, hl with | [_, _], _ => rfl) fun f cd A outer s W E G hp => ?_
  exact (ss_cons (ss_drop (se_callP G p_check_message (by decide) (gl_of (by kernel_rfl)) (sa_cons (se_var (i := 0) (by kernel_rfl) (.inl (by kernel_rfl))) (sa_cons (se_var (i := 1) (by kernel_rfl) (.inl (by kernel_rfl))) sa_nil)) (ln_cons (ln_cons ln_nil)))) (ss_one (ss_retF (se_callP G p_told (by decide) (gl_of (by kernel_rfl)) (sa_cons (se_var (i := 0) (by kernel_rfl) (.inl (by kernel_rfl))) (sa_cons (se_var (i := 1) (by kernel_rfl) (.inl (by kernel_rfl))) sa_nil)) (ln_cons (ln_cons ln_nil))))))
def M_is_mended_or_doubt : Sx := (sSeq (sDrop (eFn F_check_message (lCons (eVar 0) (lCons (eVar 1) lNil)))) (sSeq (sIf (tOr' (tNot' (tV (eFn F_is_tuple (lCons (eVar 2) (lCons (eC (.int 2)) (lCons (eC (.int 3)) lNil)))))) (tNot' (tV (eIsa PyData.isStr (eBin ixD (eVar 2) (eC (.int 0))))))) (sRet (eC (.bl false))) sNil) (sSeq (sIf (tV (eBin (pur eqD) (eBin ixD (eVar 2) (eC (.int 0))) (eC (.str "mended")))) (sRet (eAnd (eBin (pur eqD) (eFn (g1 fun d => lift (lenD d)) (lCons (eVar 2) lNil)) (eC (.int 2))) (eAnd (eFn F_is_message (lCons (eBin ixD (eVar 2) (eC (.int 1))) (lCons (eBin ixD (eVar 0) (eC (.int 0))) (lCons (eBin ixD (eVar 0) (eC (.int 0))) lNil)))) (eBin (pur eqD) (eVar 2) (eFn F_told (lCons (eVar 0) (lCons (eVar 1) lNil))))))) sNil) (sRet (eAnd (eFn (g1 fun d => lift (allD d)) (lCons (eLc [3, 4] (iSeq (eSl slA (eVar 2) (pAt (eC (.int 1))) pNo)) (gNm 4) tYesS (eFn F_is_number (lCons (eVar 4) lNil))) lNil)) (eBin (pur eqD) (eVar 2) (eFn F_told (lCons (eVar 0) (lCons (eVar 1) lNil)))))))))
def F_is_mended_or_doubt : Fx := callS .froz M_is_mended_or_doubt
theorem p_is_mended_or_doubt (S : Says fa fn K mg) : Prm P w K mg base 6 "is_mended_or_doubt" ["guards", "message", "thing"] .froz F_is_mended_or_doubt := by
  have p_is_number := p_is_number (P := P) (w := w) (base := base) S
  have p_is_tuple := p_is_tuple (P := P) (w := w) (base := base) S
  have p_is_message := p_is_message (P := P) (w := w) (base := base) S
  have p_check_message := p_check_message (P := P) (w := w) (base := base) S
  have p_told := p_told (P := P) (w := w) (base := base) S
  refine prm_of (N := ["guards", "message", "thing", ".0", "one"]) (m := M_is_mended_or_doubt) S 16 16 (d := mkD "is_mended_or_doubt" 28) (by kernel_rfl) (by kernel_rfl) rfl rfl rfl ⟨by kernel_rfl, by kernel_rfl, by kernel_rfl, by decide +kernel, by kernel_rfl, by decide +kernel, by decide +kernel⟩ (fun _ _ _ _ _ _ us hl => match us, hl with | [_, _, _], _ => rfl) fun f cd A outer s W E G hp => ?_
  exact (ss_cons (ss_drop (se_callP G p_check_message (by decide) (gl_of (by kernel_rfl)) (sa_cons (se_var (i := 0) (by kernel_rfl) (.inl (by kernel_rfl))) (sa_cons (se_var (i := 1) (by kernel_rfl) (.inl (by kernel_rfl))) sa_nil)) (ln_cons (ln_cons ln_nil)))) (ss_cons (ss_if (SW.st (sw_or (st_not (st_val (se_callP G p_is_tuple (by decide) (gl_of (by kernel_rfl)) (sa_cons (se_var (i := 2) (by kernel_rfl) (.inl (by kernel_rfl))) (sa_cons se_int (sa_cons se_int sa_nil))) (ln_cons (ln_cons (ln_cons ln_nil)))))) (sw_or1 (st_not (st_val (se_isa isa_str G.sys (gl_of (by kernel_rfl)) (S.no 42 (by kernel_rfl)) (gl_of (by kernel_rfl)) (S.no 48 (by kernel_rfl)) (by kernel_rfl) (se_ix (se_var (i := 2) (by kernel_rfl) (.inl (by kernel_rfl))) se_int (fun _ _ => rfl)))))))) (ss_one (ss_retF se_bl)) ss_nil) (ss_cons (ss_if (st_cmp (sop_eq G.sys G.un) (se_ix (se_var (i := 2) (by kernel_rfl) (.inl (by kernel_rfl))) se_int (fun _ _ => rfl)) se_str (nomark _)) (ss_one (ss_retF (se_and (se_cmp (sop_eq G.sys G.un) (se_fnB sf_len (gl_of (by kernel_rfl)) (S.no 43 (by kernel_rfl)) (by kernel_rfl) (sb_cons (se_var (i := 2) (by kernel_rfl) (.inl (by kernel_rfl))) sb_nil)) se_int (nomark _)) (se_and (se_callP G p_is_message (by decide) (gl_of (by kernel_rfl)) (sa_cons (se_ix (se_var (i := 2) (by kernel_rfl) (.inl (by kernel_rfl))) se_int (fun _ _ => rfl)) (sa_cons (se_ix (se_var (i := 0) (by kernel_rfl) (.inl (by kernel_rfl))) se_int (fun _ _ => rfl)) (sa_cons (se_ix (se_var (i := 0) (by kernel_rfl) (.inl (by kernel_rfl))) se_int (fun _ _ => rfl)) sa_nil))) (ln_cons (ln_cons (ln_cons ln_nil)))) (se_one (se_cmp (sop_eq G.sys G.un) (se_var (i := 2) (by kernel_rfl) (.inl (by kernel_rfl))) (se_callP G p_told (by decide) (gl_of (by kernel_rfl)) (sa_cons (se_var (i := 0) (by kernel_rfl) (.inl (by kernel_rfl))) (sa_cons (se_var (i := 1) (by kernel_rfl) (.inl (by kernel_rfl))) sa_nil)) (ln_cons (ln_cons ln_nil))) (nomark _))))))) ss_nil) (ss_one (ss_retF (se_and (se_fnB (sf_all G.calm G.sys) (gl_of (by kernel_rfl)) (S.no 37 (by kernel_rfl)) (by kernel_rfl) (sb_cons (se_lc (own := [(".0", 3), ("one", 4)]) (is := [4]) G.calm G.nd (blkOk_by (by kernel_rfl)) (by decide) (si_seq (se_slA (se_var (i := 2) (by kernel_rfl) (.inl (by kernel_rfl))) (so_at se_int) so_no)) (fun _ _ _ _ _ => (sg_nm (i := 4) ⟨(by exact G.nd), (by kernel_rfl), .inl (by kernel_rfl), .inr (by kernel_rfl)⟩)) (fun _ _ _ _ _ => sts_nil) (fun _ _ _ _ _ => (se_callP (G.blk _ _ _ _ _ _) p_is_number (by decide) (gl_of (by kernel_rfl)) (sa_cons (se_var (i := 4) (by kernel_rfl) (.inl (by kernel_rfl))) sa_nil) (ln_cons ln_nil)))) sb_nil)) (se_one (se_cmp (sop_eq G.sys G.un) (se_var (i := 2) (by kernel_rfl) (.inl (by kernel_rfl))) (se_callP G p_told (by decide) (gl_of (by kernel_rfl)) (sa_cons (se_var (i := 0) (by kernel_rfl) (.inl (by kernel_rfl))) (sa_cons (se_var (i := 1) (by kernel_rfl) (.inl (by kernel_rfl))) sa_nil)) (ln_cons (ln_cons ln_nil))) (nomark _)))))))))
def M__law_told_right : Sx := (sSeq (sSet 4 (eFn F__law_odd (lCons (eVar 1) (lCons (eVar 2) lNil)))) (sSeq (sSet 5 (eIf (tV (eBin (pur gtD) (eFn (g1 fun d => lift (lenD d)) (lCons (eVar 4) lNil)) (eC (.int 0)))) (eTup (lCons (eC (.str "odd")) (lCons (eFn (g1 fun d => lift (tupD d)) (lCons (eVar 4) lNil)) lNil))) (eTup (lCons (eC (.str "right")) lNil)))) (sSeq (sSet 6 (eFn (g1 fun d => lift (minD' d)) (lCons (eLc [11, 12] (iSeq (eVar 3)) (gNm 12) tYesS (eFn F__law_off (lCons (eVar 2) (lCons (eVar 12) lNil)))) lNil))) (sSeq (sSet 7 (eLc [11, 12] (iSeq (eVar 3)) (gNm 12) (tV (eBin (pur eqD) (eFn F__law_off (lCons (eVar 2) (lCons (eVar 12) lNil))) (eVar 6))) (eVar 12))) (sSeq (sSet 8 (eIf (tV (eBin (pur eqD) (eFn (g1 fun d => lift (lenD d)) (lCons (eVar 7) lNil)) (eC (.int 1)))) (eTup (lCons (eC (.str "mended")) (lCons (eBin ixD (eVar 7) (eC (.int 0))) lNil))) (eTup (lCons (eC (.str "doubt")) (lCons (eVar 6) (lCons (eFn (g1 fun d => lift (lenD d)) (lCons (eVar 7) lNil)) lNil)))))) (sSeq (sIf (tOr' (tV (eBin (pur neD) (eFn (g1 fun d => lift (repD d)) (lCons (eFn F_right_or_odd (lCons (eVar 1) (lCons (eVar 2) lNil))) lNil)) (eFn (g1 fun d => lift (repD d)) (lCons (eVar 5) lNil)))) (tV (eBin (pur neD) (eFn (g1 fun d => lift (repD d)) (lCons (eFn F_mended_or_doubt (lCons (eVar 1) (lCons (eVar 2) lNil))) lNil)) (eFn (g1 fun d => lift (repD d)) (lCons (eVar 8) lNil))))) (sRet (eC (.bl false))) sNil) (sSeq (sSet 9 (eLst (lCons (eVar 5) (lCons (eVar 8) (lCons (eFn (g1 fun d => lift (listD d)) (lCons (eVar 5) lNil)) (lCons (eFn (g1 fun d => lift (listD d)) (lCons (eVar 8) lNil)) (lCons (eBin (pur addA) (eVar 5) (eTup (lCons (eC (.int 0)) lNil))) (lCons (eSl slA (eVar 8) pNo (pAt (eC (.int 1)))) (lCons (eTup (lCons (eC (.str "right")) lNil)) (lCons (eTup (lCons (eC (.str "odd")) (lCons (eTup lNil) lNil))) lNil)))))))))) (sSeq (sSet 9 (eBin (pur addA) (eVar 9) (eLst (lCons (eTup (lCons (eC (.str "odd")) (lCons (eTup (lCons (eC (.int 0)) lNil)) lNil))) (lCons (eTup (lCons (eC (.str "mended")) (lCons (eVar 2) lNil))) (lCons (eC .non) (lCons (eTup lNil) lNil))))))) (sSeq (sSet 9 (eBin (pur addA) (eVar 9) (eLst (lCons (eTup (lCons (eC (.str "doubt")) (lCons (eVar 6) (lCons (eC (.int 1)) lNil)))) (lCons (eTup (lCons (eC (.str "doubt")) (lCons (eVar 6) (lCons (eC (.int 2)) lNil)))) (lCons (eTup (lCons (eC (.str "doubt")) (lCons (eC (.int 1)) (lCons (eC (.int 2)) lNil)))) (lCons (eTup (lCons (eC (.str "mended")) (lCons (eFn (g1 fun d => lift (listD d)) (lCons (eBin ixD (eVar 7) (eC (.int 0))) lNil)) lNil))) lNil))))))) (sSeq (sSet 9 (eBin (pur addA) (eVar 9) (eLst (lCons (eTup (lCons (eC (.str "odd")) (lCons (eFn (g1 fun d => lift (listD d)) (lCons (eVar 4) lNil)) lNil))) (lCons (eTup (lCons (eC (.str "doubt")) (lCons (eC (.bl true)) (lCons (eC (.int 2)) lNil)))) lNil))))) (sSeq (sFor (iSeq (eBin (pur addA) (eVar 9) (eLst (lCons (eFn F__law_deep (lCons (eVar 0) lNil)) lNil)))) (gNm 10) (sSeq (sIf (tNot' (tV (eFn F__law_flag (lCons (eFn F_is_right_or_odd (lCons (eVar 1) (lCons (eVar 2) (lCons (eVar 10) lNil)))) (lCons (eBin (pur eqD) (eFn (g1 fun d => lift (repD d)) (lCons (eVar 10) lNil)) (eFn (g1 fun d => lift (repD d)) (lCons (eVar 5) lNil))) lNil))))) (sRet (eC (.bl false))) sNil) (sIf (tNot' (tV (eFn F__law_flag (lCons (eFn F_is_mended_or_doubt (lCons (eVar 1) (lCons (eVar 2) (lCons (eVar 10) lNil)))) (lCons (eBin (pur eqD) (eFn (g1 fun d => lift (repD d)) (lCons (eVar 10) lNil)) (eFn (g1 fun d => lift (repD d)) (lCons (eVar 8) lNil))) lNil))))) (sRet (eC (.bl false))) sNil))) (sRet (eC (.bl true))))))))))))))
def F__law_told_right : Fx := callS .froz M__law_told_right
theorem p__law_told_right (S : Says fa fn K mg) : Prm P w K mg base 7 "_law_told_right" ["hand", "guards", "message", "right"] .froz F__law_told_right := by
  have p_right_or_odd := p_right_or_odd (P := P) (w := w) (base := base) S
  have p_is_right_or_odd := p_is_right_or_odd (P := P) (w := w) (base := base) S
  have p_mended_or_doubt := p_mended_or_doubt (P := P) (w := w) (base := base) S
  have p_is_mended_or_doubt := p_is_mended_or_doubt (P := P) (w := w) (base := base) S
  have p__law_odd := p__law_odd (P := P) (w := w) (base := base) S
  have p__law_off := p__law_off (P := P) (w := w) (base := base) S
  have p__law_deep := p__law_deep (P := P) (w := w) (base := base) S
  have p__law_flag := p__law_flag (P := P) (w := w) (base := base) S
  refine prm_of (N := ["hand", "guards", "message", "right", "odd", "first", "off", "near", "second", "some", "thing", ".0", "one"]) (m := M__law_told_right) S 33 33 (d := mkD "_law_told_right" 46) (by kernel_rfl) (by kernel_rfl) rfl rfl rfl ⟨by kernel_rfl, by kernel_rfl, by kernel_rfl, by decide +kernel, by kernel_rfl, by decide +kernel, by decide +kernel⟩ (fun _ _ _ _ _ _ us hl => match us, hl with | [_, _, _, _], _ => rfl) fun f cd A outer s W E G hp => ?_
  exact (ss_cons (ss_set (i := 4) ⟨(by exact G.nd), (by kernel_rfl), .inl (by kernel_rfl), .inl rfl⟩ (se_callP G p__law_odd (by decide) (gl_of (by kernel_rfl)) (sa_cons (se_var (i := 1) (by kernel_rfl) (.inl (by kernel_rfl))) (sa_cons (se_var (i := 2) (by kernel_rfl) (.inr (.inl (by kernel_rfl)))) sa_nil)) (ln_cons (ln_cons ln_nil)))) (ss_cons (ss_set (i := 5) ⟨(by exact G.nd), (by kernel_rfl), .inl (by kernel_rfl), .inl rfl⟩ (se_if (st_cmp (sop_gt G.sys G.un) (se_fnB sf_len (gl_of (by kernel_rfl)) (S.no 43 (by kernel_rfl)) (by kernel_rfl) (sb_cons (se_var (i := 4) (by kernel_rfl) (.inl (by kernel_rfl))) sb_nil)) se_int (nomark _)) (se_tup (sa_cons se_str (sa_cons (se_fnT sf_tup (gl_of (by kernel_rfl)) (S.no 51 (by kernel_rfl)) (by kernel_rfl) (sb_cons (se_var (i := 4) (by kernel_rfl) (.inl (by kernel_rfl))) sb_nil)) sa_nil)) (ln_cons (ln_cons ln_nil))) (se_tup (sa_cons se_str sa_nil) (ln_cons ln_nil)))) (ss_cons (ss_set (i := 6) ⟨(by exact G.nd), (by kernel_rfl), .inr (by kernel_rfl), .inl rfl⟩ (se_fnB (sf_min G.calm G.sys G.un) (gl_of (by kernel_rfl)) (S.no 45 (by kernel_rfl)) (by kernel_rfl) (sb_cons (se_lc (own := [(".0", 11), ("one", 12)]) (is := [12]) G.calm G.nd (blkOk_by (by kernel_rfl)) (by decide) (si_seq (se_var (i := 3) (by kernel_rfl) (.inl (by kernel_rfl)))) (fun _ _ _ _ _ => (sg_nm (i := 12) ⟨(by exact G.nd), (by kernel_rfl), .inl (by kernel_rfl), .inr (by kernel_rfl)⟩)) (fun _ _ _ _ _ => sts_nil) (fun _ _ _ _ _ => (se_callP (G.blk _ _ _ _ _ _) p__law_off (by decide) (gl_of (by kernel_rfl)) (sa_cons (se_var (i := 2) (by kernel_rfl) (.inr (.inl (by kernel_rfl)))) (sa_cons (se_var (i := 12) (by kernel_rfl) (.inl (by kernel_rfl))) sa_nil)) (ln_cons (ln_cons ln_nil))))) sb_nil))) (ss_cons (ss_setLc (own := [(".0", 11), ("one", 12)]) (is := [12]) (i := 7) ⟨(by exact G.nd), (by kernel_rfl), .inl (by kernel_rfl), .inl rfl⟩ (by kernel_rfl) G.calm (by kernel_rfl) (blkOk_by (by kernel_rfl)) (by decide) (si_seq (se_var (i := 3) (by kernel_rfl) (.inl (by kernel_rfl)))) (fun _ _ _ _ _ => (sg_nm (i := 12) ⟨(by exact G.nd), (by kernel_rfl), .inl (by kernel_rfl), .inr (by kernel_rfl)⟩)) (fun _ _ _ _ _ => (sts_one (st_cmp (sop_eq G.sys G.un) (se_callP (G.blk _ _ _ _ _ _) p__law_off (by decide) (gl_of (by kernel_rfl)) (sa_cons (se_var (i := 2) (by kernel_rfl) (.inr (.inl (by kernel_rfl)))) (sa_cons (se_var (i := 12) (by kernel_rfl) (.inl (by kernel_rfl))) sa_nil)) (ln_cons (ln_cons ln_nil))) (se_var (i := 6) (by kernel_rfl) (.inr (.inl (by kernel_rfl)))) (nomark _)))) (fun _ _ _ _ _ => (se_var (i := 12) (by kernel_rfl) (.inl (by kernel_rfl))))) (ss_cons (ss_set (i := 8) ⟨(by exact G.nd), (by kernel_rfl), .inl (by kernel_rfl), .inl rfl⟩ (se_if (st_cmp (sop_eq G.sys G.un) (se_fnB sf_len (gl_of (by kernel_rfl)) (S.no 43 (by kernel_rfl)) (by kernel_rfl) (sb_cons (se_var (i := 7) (by kernel_rfl) (.inl (by kernel_rfl))) sb_nil)) se_int (nomark _)) (se_tup (sa_cons se_str (sa_cons (se_ix (se_var (i := 7) (by kernel_rfl) (.inl (by kernel_rfl))) se_int (fun _ _ => rfl)) sa_nil)) (ln_cons (ln_cons ln_nil))) (se_tup (sa_cons se_str (sa_cons (se_var (i := 6) (by kernel_rfl) (.inr (.inl (by kernel_rfl)))) (sa_cons (se_fnB sf_len (gl_of (by kernel_rfl)) (S.no 43 (by kernel_rfl)) (by kernel_rfl) (sb_cons (se_var (i := 7) (by kernel_rfl) (.inl (by kernel_rfl))) sb_nil)) sa_nil))) (ln_cons (ln_cons (ln_cons ln_nil)))))) (ss_cons (ss_if (SW.st (sw_or (st_cmp (sop_ne G.sys G.un) (se_fnB (sf_repr G.sys G.un G.gu) (gl_of (by kernel_rfl)) (S.no 47 (by kernel_rfl)) (by kernel_rfl) (sb_cons (se_callP G p_right_or_odd (by decide) (gl_of (by kernel_rfl)) (sa_cons (se_var (i := 1) (by kernel_rfl) (.inl (by kernel_rfl))) (sa_cons (se_var (i := 2) (by kernel_rfl) (.inr (.inl (by kernel_rfl)))) sa_nil)) (ln_cons (ln_cons ln_nil))) sb_nil)) (se_fnB (sf_repr G.sys G.un G.gu) (gl_of (by kernel_rfl)) (S.no 47 (by kernel_rfl)) (by kernel_rfl) (sb_cons (se_var (i := 5) (by kernel_rfl) (.inl (by kernel_rfl))) sb_nil)) (nomark _)) (sw_or1 (st_cmp (sop_ne G.sys G.un) (se_fnB (sf_repr G.sys G.un G.gu) (gl_of (by kernel_rfl)) (S.no 47 (by kernel_rfl)) (by kernel_rfl) (sb_cons (se_callP G p_mended_or_doubt (by decide) (gl_of (by kernel_rfl)) (sa_cons (se_var (i := 1) (by kernel_rfl) (.inl (by kernel_rfl))) (sa_cons (se_var (i := 2) (by kernel_rfl) (.inr (.inl (by kernel_rfl)))) sa_nil)) (ln_cons (ln_cons ln_nil))) sb_nil)) (se_fnB (sf_repr G.sys G.un G.gu) (gl_of (by kernel_rfl)) (S.no 47 (by kernel_rfl)) (by kernel_rfl) (sb_cons (se_var (i := 8) (by kernel_rfl) (.inl (by kernel_rfl))) sb_nil)) (nomark _))))) (ss_one (ss_retF se_bl)) ss_nil) (ss_cons (ss_set (i := 9) ⟨(by exact G.nd), (by kernel_rfl), .inl (by kernel_rfl), .inl rfl⟩ (SE.froz (se_lst (sa_cons (se_var (i := 5) (by kernel_rfl) (.inl (by kernel_rfl))) (sa_cons (se_var (i := 8) (by kernel_rfl) (.inl (by kernel_rfl))) (sa_cons (SE.froz (se_fnT sf_list (gl_of (by kernel_rfl)) (S.no 44 (by kernel_rfl)) (by kernel_rfl) (sb_cons (se_var (i := 5) (by kernel_rfl) (.inl (by kernel_rfl))) sb_nil))) (sa_cons (SE.froz (se_fnT sf_list (gl_of (by kernel_rfl)) (S.no 44 (by kernel_rfl)) (by kernel_rfl) (sb_cons (se_var (i := 8) (by kernel_rfl) (.inl (by kernel_rfl))) sb_nil))) (sa_cons (se_bin sop_addA (se_var (i := 5) (by kernel_rfl) (.inl (by kernel_rfl))) (se_tup (sa_cons se_int sa_nil) (ln_cons ln_nil))) (sa_cons (se_slA (se_var (i := 8) (by kernel_rfl) (.inl (by kernel_rfl))) so_no (so_at se_int)) (sa_cons (se_tup (sa_cons se_str sa_nil) (ln_cons ln_nil)) (sa_cons (se_tup (sa_cons se_str (sa_cons (se_tup sa_nil ln_nil) sa_nil)) (ln_cons (ln_cons ln_nil))) sa_nil)))))))) (ln_cons (ln_cons (ln_cons (ln_cons (ln_cons (ln_cons (ln_cons (ln_cons ln_nil))))))))))) (ss_cons (ss_set (i := 9) ⟨(by exact G.nd), (by kernel_rfl), .inl (by kernel_rfl), .inl rfl⟩ (se_bin sop_addA (se_var (i := 9) (by kernel_rfl) (.inl (by kernel_rfl))) (se_lst (sa_cons (se_tup (sa_cons se_str (sa_cons (se_tup (sa_cons se_int sa_nil) (ln_cons ln_nil)) sa_nil)) (ln_cons (ln_cons ln_nil))) (sa_cons (se_tup (sa_cons se_str (sa_cons (se_var (i := 2) (by kernel_rfl) (.inr (.inl (by kernel_rfl)))) sa_nil)) (ln_cons (ln_cons ln_nil))) (sa_cons se_non (sa_cons (se_tup sa_nil ln_nil) sa_nil)))) (ln_cons (ln_cons (ln_cons (ln_cons ln_nil))))))) (ss_cons (ss_set (i := 9) ⟨(by exact G.nd), (by kernel_rfl), .inl (by kernel_rfl), .inl rfl⟩ (se_bin sop_addA (se_var (i := 9) (by kernel_rfl) (.inl (by kernel_rfl))) (se_lst (sa_cons (se_tup (sa_cons se_str (sa_cons (se_var (i := 6) (by kernel_rfl) (.inr (.inl (by kernel_rfl)))) (sa_cons se_int sa_nil))) (ln_cons (ln_cons (ln_cons ln_nil)))) (sa_cons (se_tup (sa_cons se_str (sa_cons (se_var (i := 6) (by kernel_rfl) (.inr (.inl (by kernel_rfl)))) (sa_cons se_int sa_nil))) (ln_cons (ln_cons (ln_cons ln_nil)))) (sa_cons (se_tup (sa_cons se_str (sa_cons se_int (sa_cons se_int sa_nil))) (ln_cons (ln_cons (ln_cons ln_nil)))) (sa_cons (se_tup (sa_cons se_str (sa_cons (SE.froz (se_fnT sf_list (gl_of (by kernel_rfl)) (S.no 44 (by kernel_rfl)) (by kernel_rfl) (sb_cons (se_ix (se_var (i := 7) (by kernel_rfl) (.inl (by kernel_rfl))) se_int (fun _ _ => rfl)) sb_nil))) sa_nil)) (ln_cons (ln_cons ln_nil))) sa_nil)))) (ln_cons (ln_cons (ln_cons (ln_cons ln_nil))))))) (ss_cons (ss_set (i := 9) ⟨(by exact G.nd), (by kernel_rfl), .inl (by kernel_rfl), .inl rfl⟩ (se_bin sop_addA (se_var (i := 9) (by kernel_rfl) (.inl (by kernel_rfl))) (se_lst (sa_cons (se_tup (sa_cons se_str (sa_cons (SE.froz (se_fnT sf_list (gl_of (by kernel_rfl)) (S.no 44 (by kernel_rfl)) (by kernel_rfl) (sb_cons (se_var (i := 4) (by kernel_rfl) (.inl (by kernel_rfl))) sb_nil))) sa_nil)) (ln_cons (ln_cons ln_nil))) (sa_cons (se_tup (sa_cons se_str (sa_cons se_bl (sa_cons se_int sa_nil))) (ln_cons (ln_cons (ln_cons ln_nil)))) sa_nil)) (ln_cons (ln_cons ln_nil))))) (ss_cons (ss_for hp G.calm (si_seq (se_bin sop_addA (se_var (i := 9) (by kernel_rfl) (.inl (by kernel_rfl))) (se_lst (sa_cons (se_callP G p__law_deep (by decide) (gl_of (by kernel_rfl)) (sa_cons (se_var (i := 0) (by kernel_rfl) (.inl (by kernel_rfl))) sa_nil) (ln_cons ln_nil)) sa_nil) (ln_cons ln_nil)))) (sg_nm (i := 10) ⟨(by exact G.nd), (by kernel_rfl), .inl (by kernel_rfl), .inl rfl⟩) (ss_cons (ss_if (st_not (st_val (se_callP G p__law_flag (by decide) (gl_of (by kernel_rfl)) (sa_cons (se_callP G p_is_right_or_odd (by decide) (gl_of (by kernel_rfl)) (sa_cons (se_var (i := 1) (by kernel_rfl) (.inl (by kernel_rfl))) (sa_cons (se_var (i := 2) (by kernel_rfl) (.inr (.inl (by kernel_rfl)))) (sa_cons (se_var (i := 10) (by kernel_rfl) (.inl (by kernel_rfl))) sa_nil))) (ln_cons (ln_cons (ln_cons ln_nil)))) (sa_cons (se_cmp (sop_eq G.sys G.un) (se_fnB (sf_repr G.sys G.un G.gu) (gl_of (by kernel_rfl)) (S.no 47 (by kernel_rfl)) (by kernel_rfl) (sb_cons (se_var (i := 10) (by kernel_rfl) (.inl (by kernel_rfl))) sb_nil)) (se_fnB (sf_repr G.sys G.un G.gu) (gl_of (by kernel_rfl)) (S.no 47 (by kernel_rfl)) (by kernel_rfl) (sb_cons (se_var (i := 5) (by kernel_rfl) (.inl (by kernel_rfl))) sb_nil)) (nomark _)) sa_nil)) (ln_cons (ln_cons ln_nil))))) (ss_one (ss_retF se_bl)) ss_nil) (ss_one (ss_if (st_not (st_val (se_callP G p__law_flag (by decide) (gl_of (by kernel_rfl)) (sa_cons (se_callP G p_is_mended_or_doubt (by decide) (gl_of (by kernel_rfl)) (sa_cons (se_var (i := 1) (by kernel_rfl) (.inl (by kernel_rfl))) (sa_cons (se_var (i := 2) (by kernel_rfl) (.inr (.inl (by kernel_rfl)))) (sa_cons (se_var (i := 10) (by kernel_rfl) (.inl (by kernel_rfl))) sa_nil))) (ln_cons (ln_cons (ln_cons ln_nil)))) (sa_cons (se_cmp (sop_eq G.sys G.un) (se_fnB (sf_repr G.sys G.un G.gu) (gl_of (by kernel_rfl)) (S.no 47 (by kernel_rfl)) (by kernel_rfl) (sb_cons (se_var (i := 10) (by kernel_rfl) (.inl (by kernel_rfl))) sb_nil)) (se_fnB (sf_repr G.sys G.un G.gu) (gl_of (by kernel_rfl)) (S.no 47 (by kernel_rfl)) (by kernel_rfl) (sb_cons (se_var (i := 8) (by kernel_rfl) (.inl (by kernel_rfl))) sb_nil)) (nomark _)) sa_nil)) (ln_cons (ln_cons ln_nil))))) (ss_one (ss_retF se_bl)) ss_nil)))) (ss_one (ss_retF se_bl)))))))))))))
def M__law_right : Sx := (sSeq (sSet 1 (eFn F__law_guards (lCons (eVar 0) (lCons (eC (.int 6)) lNil)))) (sSeq (sAsg (gTp (gCs (gNm 2) (gCs (gNm 3) gNl))) (eVar 1)) (sSeq (sSet 4 (eFn F__law_messages (lCons (eVar 2) lNil))) (sSeq (sSet 6 (eLc [18, 5] (iSeq (eVar 4)) (gNm 5) (tV (eBin (pur eqD) (eFn (g1 fun d => lift (lenD d)) (lCons (eFn F__law_odd (lCons (eVar 1) (lCons (eVar 5) lNil))) lNil)) (eC (.int 0)))) (eVar 5))) (sSeq (sIf (tV (eBin (pur neD) (eFn (g1 fun d => lift (repD d)) (lCons (eFn F_right_count (lCons (eVar 1) lNil)) lNil)) (eFn (g1 fun d => lift (repD d)) (lCons (eFn (g1 fun d => lift (lenD d)) (lCons (eVar 6) lNil)) lNil)))) (sRet (eC (.bl false))) sNil) (sSeq (sIf (tNot' (tV (eFn F__law_told_right (lCons (eVar 0) (lCons (eVar 1) (lCons (eFn F__law_some (lCons (eVar 0) (lCons (eVar 4) lNil))) (lCons (eVar 6) lNil))))))) (sRet (eC (.bl false))) sNil) (sSeq (sSet 7 (eC .non)) (sSeq (sIf (tV (eBin (pur gtD) (eFn (g1 fun d => lift (lenD d)) (lCons (eVar 6) lNil)) (eC (.int 1)))) (sSet 7 (eFn (g1 fun d => lift (minD' d)) (lCons (eLc [18, 5] (iSeq (eSl slA (eVar 6) (pAt (eC (.int 1))) pNo)) (gNm 5) tYesS (eFn (g1 fun d => lift (sumD d)) (lCons (eVar 5) lNil))) lNil))) sNil) (sSeq (sIf (tV (eBin (pur neD) (eFn (g1 fun d => lift (repD d)) (lCons (eFn F_least_apart (lCons (eVar 1) lNil)) lNil)) (eFn (g1 fun d => lift (repD d)) (lCons (eVar 7) lNil)))) (sRet (eC (.bl false))) sNil) (sSeq (sSet 8 (eFn F__law_draw (lCons (eVar 0) (lCons (eC (.int 9)) lNil)))) (sSeq (sIf (tNot' (tV (eFn F__law_flag (lCons (eFn F_mends (lCons (eVar 1) (lCons (eVar 8) lNil))) (lCons (eOr (eBin (pur isOp) (eVar 7) (eC .non)) (eBin (pur ltD) (eBin (pur mulA) (eFn (g2 fun a b => lift (min2D a b)) (lCons (eVar 8) (lCons (eVar 2) lNil))) (eC (.int 2))) (eVar 7))) lNil))))) (sRet (eC (.bl false))) sNil) (sSeq (sOwn 9 (eLst lNil)) (sSeq (sFor (iRng1S (eFn (g1 fun d => lift (lenD d)) (lCons (eVar 3) lNil))) (gNm 10) (sSeq (sSet 11 (eTup (lCons (eVar 2) (lCons (eBin (pur addA) (eSl slA (eVar 3) pNo (pAt (eVar 10))) (eSl slA (eVar 3) (pAt (eBin (pur addA) (eVar 10) (eC (.int 1)))) pNo)) lNil)))) (sExt 9 (eBin (pur mulL) (eLst (lCons (eVar 10) lNil)) (eFn (g1 fun d => lift (intD d)) (lCons (eBin (pur eqD) (eFn (g1 fun d => lift (lenD d)) (lCons (eLc [18, 5] (iSeq (eVar 4)) (gNm 5) (tV (eBin (pur eqD) (eFn (g1 fun d => lift (lenD d)) (lCons (eFn F__law_odd (lCons (eVar 11) (lCons (eVar 5) lNil))) lNil)) (eC (.int 0)))) (eC (.int 1))) lNil)) (eFn (g1 fun d => lift (lenD d)) (lCons (eVar 6) lNil))) lNil)))))) (sSeq (sIf (tV (eBin (pur neD) (eFn (g1 fun d => lift (repD d)) (lCons (eFn F_needless_lots (lCons (eVar 1) lNil)) lNil)) (eFn (g1 fun d => lift (repD d)) (lCons (eFn (g1 fun d => lift (tupD d)) (lCons (eVarB 9) lNil)) lNil)))) (sRet (eC (.bl false))) sNil) (sSeq (sAsg (gTp (gCs (gNm 12) (gCs (gNm 13) gNl))) (eTup (lCons (eFn F__law_some (lCons (eVar 0) (lCons (eVar 4) lNil))) (lCons (eLc [18, 19] (iRng1S (eBin (pur addA) (eC (.int 1)) (eFn F__law_draw (lCons (eVar 0) (lCons (eC (.int 4)) lNil))))) (gNm 19) tYesS (eFn F__law_draw (lCons (eVar 0) (lCons (eVar 2) lNil)))) lNil)))) (sSeq (sSet 14 (eFn (g1 fun d => lift (tupD d)) (lCons (eLc [18, 19, 5] (iEnumS (eVar 12)) (gTp (gCs (gNm 19) (gCs (gNm 5) gNl))) tYesS (eIf (tV (eBin (pur inD) (eVar 19) (eVar 13))) (eC .non) (eVar 5))) lNil))) (sSeq (sSet 15 (eLc [18, 5] (iSeq (eVar 6)) (gNm 5) (tV (eFn (g1 fun d => lift (allD d)) (lCons (eLc [18, 20, 21] (iZipS (eVar 14) (eVar 5)) (gTp (gCs (gNm 20) (gCs (gNm 21) gNl))) tYesS (eOr (eBin (pur isOp) (eVar 20) (eC .non)) (eBin (pur eqD) (eVar 20) (eVar 21)))) lNil))) (eVar 5))) (sSeq (sIf (tV (eBin (pur neD) (eFn (g1 fun d => lift (repD d)) (lCons (eFn F_filled (lCons (eVar 1) (lCons (eVar 14) lNil))) lNil)) (eFn (g1 fun d => lift (repD d)) (lCons (eFn (g1 fun d => lift (tupD d)) (lCons (eVar 15) lNil)) lNil)))) (sRet (eC (.bl false))) sNil) (sSeq (sPar 5 16 (lCons (eFn F__law_some (lCons (eVar 0) (lCons (eVar 6) lNil))) (lCons (eFn F__law_some (lCons (eVar 0) (lCons (eVar 6) lNil))) lNil))) (sSeq (sSet 17 (eFn (g1 fun d => lift (tupD d)) (lCons (eLc [18, 20, 21] (iZipS (eVar 5) (eVar 16)) (gTp (gCs (gNm 20) (gCs (gNm 21) gNl))) tYesS (eBin (pur modD) (eFn (g1 fun d => lift (intD d)) (lCons (eBin (pur addA) (eVar 20) (eVar 21)) lNil)) (eC (.int 2)))) lNil))) (sRet (eAnd (eBin (pur eqD) (eFn (g1 fun d => lift (repD d)) (lCons (eFn F_summed (lCons (eVar 5) (lCons (eVar 16) lNil))) lNil)) (eFn (g1 fun d => lift (repD d)) (lCons (eVar 17) lNil))) (eBin (pur eqD) (eFn F_right_or_odd (lCons (eVar 1) (lCons (eFn F_summed (lCons (eVar 5) (lCons (eVar 16) lNil))) lNil))) (eTup (lCons (eC (.str "right")) lNil)))))))))))))))))))))))))
def F__law_right : Fx := callS .froz M__law_right
theorem p__law_right (S : Says fa fn K mg) : Prm P w K mg base 8 "_law_right" ["hand"] .froz F__law_right := by
  have p_right_or_odd := p_right_or_odd (P := P) (w := w) (base := base) S
  have p_right_count := p_right_count (P := P) (w := w) (base := base) S
  have p_least_apart := p_least_apart (P := P) (w := w) (base := base) S
  have p_mends := p_mends (P := P) (w := w) (base := base) S
  have p_filled := p_filled (P := P) (w := w) (base := base) S
  have p_needless_lots := p_needless_lots (P := P) (w := w) (base := base) S
  have p_summed := p_summed (P := P) (w := w) (base := base) S
  have p__law_draw := p__law_draw (P := P) (w := w) (base := base) S
  have p__law_some := p__law_some (P := P) (w := w) (base := base) S
  have p__law_messages := p__law_messages (P := P) (w := w) (base := base) S
  have p__law_guards := p__law_guards (P := P) (w := w) (base := base) S
  have p__law_odd := p__law_odd (P := P) (w := w) (base := base) S
  have p__law_flag := p__law_flag (P := P) (w := w) (base := base) S
  have p__law_told_right := p__law_told_right (P := P) (w := w) (base := base) S
  refine prm_of (N := ["hand", "guards", "n", "lots", "every", "one", "right", "apart_v", "k", "needless", "at", "fewer", "message", "lost", "holed", "fits", "other", "both", ".0", "place", "a", "b"]) (m := M__law_right) S 34 34 (d := mkD "_law_right" 47) (by kernel_rfl) (by kernel_rfl) rfl rfl rfl ⟨by kernel_rfl, by kernel_rfl, by kernel_rfl, by decide +kernel, by kernel_rfl, by decide +kernel, by decide +kernel⟩ (fun _ _ _ _ _ _ us hl => match us, hl with | [_], _ => rfl) fun f cd A outer s W E G hp => ?_
  exact (ss_cons (ss_set (i := 1) ⟨(by exact G.nd), (by kernel_rfl), .inr (by kernel_rfl), .inl rfl⟩ (se_callP G p__law_guards (by decide) (gl_of (by kernel_rfl)) (sa_cons (se_var (i := 0) (by kernel_rfl) (.inr (.inl (by kernel_rfl)))) (sa_cons se_int sa_nil)) (ln_cons (ln_cons ln_nil)))) (ss_cons (ss_asg (se_var (i := 1) (by kernel_rfl) (.inr (.inl (by kernel_rfl)))) (sg_tup (n := 2) G.calm (sg_cons (sg_nm (i := 2) ⟨(by exact G.nd), (by kernel_rfl), .inr (by kernel_rfl), .inl rfl⟩) (sg_cons (sg_nm (i := 3) ⟨(by exact G.nd), (by kernel_rfl), .inl (by kernel_rfl), .inl rfl⟩) sg_nil)) (gl_len_cons (gl_len_cons gl_len_nil)))) (ss_cons (ss_set (i := 4) ⟨(by exact G.nd), (by kernel_rfl), .inl (by kernel_rfl), .inl rfl⟩ (se_callP G p__law_messages (by decide) (gl_of (by kernel_rfl)) (sa_cons (se_var (i := 2) (by kernel_rfl) (.inr (.inl (by kernel_rfl)))) sa_nil) (ln_cons ln_nil))) (ss_cons (ss_setLc (own := [(".0", 18), ("one", 5)]) (is := [5]) (i := 6) ⟨(by exact G.nd), (by kernel_rfl), .inl (by kernel_rfl), .inl rfl⟩ (by kernel_rfl) G.calm (by kernel_rfl) (blkOk_by (by kernel_rfl)) (by decide) (si_seq (se_var (i := 4) (by kernel_rfl) (.inl (by kernel_rfl)))) (fun _ _ _ _ _ => (sg_nm (i := 5) ⟨(by exact G.nd), (by kernel_rfl), .inl (by kernel_rfl), .inr (by kernel_rfl)⟩)) (fun _ _ _ _ _ => (sts_one (st_cmp (sop_eq G.sys G.un) (se_fnB sf_len (gl_of (by kernel_rfl)) (S.no 43 (by kernel_rfl)) (by kernel_rfl) (sb_cons (se_callP (G.blk _ _ _ _ _ _) p__law_odd (by decide) (gl_of (by kernel_rfl)) (sa_cons (se_var (i := 1) (by kernel_rfl) (.inr (.inl (by kernel_rfl)))) (sa_cons (se_var (i := 5) (by kernel_rfl) (.inl (by kernel_rfl))) sa_nil)) (ln_cons (ln_cons ln_nil))) sb_nil)) se_int (nomark _)))) (fun _ _ _ _ _ => (se_var (i := 5) (by kernel_rfl) (.inl (by kernel_rfl))))) (ss_cons (ss_if (st_cmp (sop_ne G.sys G.un) (se_fnB (sf_repr G.sys G.un G.gu) (gl_of (by kernel_rfl)) (S.no 47 (by kernel_rfl)) (by kernel_rfl) (sb_cons (se_callP G p_right_count (by decide) (gl_of (by kernel_rfl)) (sa_cons (se_var (i := 1) (by kernel_rfl) (.inr (.inl (by kernel_rfl)))) sa_nil) (ln_cons ln_nil)) sb_nil)) (se_fnB (sf_repr G.sys G.un G.gu) (gl_of (by kernel_rfl)) (S.no 47 (by kernel_rfl)) (by kernel_rfl) (sb_cons (se_fnB sf_len (gl_of (by kernel_rfl)) (S.no 43 (by kernel_rfl)) (by kernel_rfl) (sb_cons (se_var (i := 6) (by kernel_rfl) (.inl (by kernel_rfl))) sb_nil)) sb_nil)) (nomark _)) (ss_one (ss_retF se_bl)) ss_nil) (ss_cons (ss_if (st_not (st_val (se_callP G p__law_told_right (by decide) (gl_of (by kernel_rfl)) (sa_cons (se_var (i := 0) (by kernel_rfl) (.inr (.inl (by kernel_rfl)))) (sa_cons (se_var (i := 1) (by kernel_rfl) (.inr (.inl (by kernel_rfl)))) (sa_cons (se_callP G p__law_some (by decide) (gl_of (by kernel_rfl)) (sa_cons (se_var (i := 0) (by kernel_rfl) (.inr (.inl (by kernel_rfl)))) (sa_cons (se_var (i := 4) (by kernel_rfl) (.inl (by kernel_rfl))) sa_nil)) (ln_cons (ln_cons ln_nil))) (sa_cons (se_var (i := 6) (by kernel_rfl) (.inl (by kernel_rfl))) sa_nil)))) (ln_cons (ln_cons (ln_cons (ln_cons ln_nil))))))) (ss_one (ss_retF se_bl)) ss_nil) (ss_cons (ss_set (i := 7) ⟨(by exact G.nd), (by kernel_rfl), .inl (by kernel_rfl), .inl rfl⟩ se_non) (ss_cons (ss_if (st_cmp (sop_gt G.sys G.un) (se_fnB sf_len (gl_of (by kernel_rfl)) (S.no 43 (by kernel_rfl)) (by kernel_rfl) (sb_cons (se_var (i := 6) (by kernel_rfl) (.inl (by kernel_rfl))) sb_nil)) se_int (nomark _)) (ss_one (ss_set (i := 7) ⟨(by exact G.nd), (by kernel_rfl), .inl (by kernel_rfl), .inl rfl⟩ (se_fnB (sf_min G.calm G.sys G.un) (gl_of (by kernel_rfl)) (S.no 45 (by kernel_rfl)) (by kernel_rfl) (sb_cons (se_lc (own := [(".0", 18), ("one", 5)]) (is := [5]) G.calm G.nd (blkOk_by (by kernel_rfl)) (by decide) (si_seq (se_slA (se_var (i := 6) (by kernel_rfl) (.inl (by kernel_rfl))) (so_at se_int) so_no)) (fun _ _ _ _ _ => (sg_nm (i := 5) ⟨(by exact G.nd), (by kernel_rfl), .inl (by kernel_rfl), .inr (by kernel_rfl)⟩)) (fun _ _ _ _ _ => sts_nil) (fun _ _ _ _ _ => (se_fnB (sf_sum G.calm) (gl_of (by kernel_rfl)) (S.no 49 (by kernel_rfl)) (by kernel_rfl) (sb_cons (se_var (i := 5) (by kernel_rfl) (.inl (by kernel_rfl))) sb_nil)))) sb_nil)))) ss_nil) (ss_cons (ss_if (st_cmp (sop_ne G.sys G.un) (se_fnB (sf_repr G.sys G.un G.gu) (gl_of (by kernel_rfl)) (S.no 47 (by kernel_rfl)) (by kernel_rfl) (sb_cons (se_callP G p_least_apart (by decide) (gl_of (by kernel_rfl)) (sa_cons (se_var (i := 1) (by kernel_rfl) (.inr (.inl (by kernel_rfl)))) sa_nil) (ln_cons ln_nil)) sb_nil)) (se_fnB (sf_repr G.sys G.un G.gu) (gl_of (by kernel_rfl)) (S.no 47 (by kernel_rfl)) (by kernel_rfl) (sb_cons (se_var (i := 7) (by kernel_rfl) (.inl (by kernel_rfl))) sb_nil)) (nomark _)) (ss_one (ss_retF se_bl)) ss_nil) (ss_cons (ss_set (i := 8) ⟨(by exact G.nd), (by kernel_rfl), .inl (by kernel_rfl), .inl rfl⟩ (se_callP G p__law_draw (by decide) (gl_of (by kernel_rfl)) (sa_cons (se_var (i := 0) (by kernel_rfl) (.inr (.inl (by kernel_rfl)))) (sa_cons se_int sa_nil)) (ln_cons (ln_cons ln_nil)))) (ss_cons (ss_if (st_not (st_val (se_callP G p__law_flag (by decide) (gl_of (by kernel_rfl)) (sa_cons (se_callP G p_mends (by decide) (gl_of (by kernel_rfl)) (sa_cons (se_var (i := 1) (by kernel_rfl) (.inr (.inl (by kernel_rfl)))) (sa_cons (se_var (i := 8) (by kernel_rfl) (.inl (by kernel_rfl))) sa_nil)) (ln_cons (ln_cons ln_nil))) (sa_cons (se_or (se_cmp sop_is (se_var (i := 7) (by kernel_rfl) (.inl (by kernel_rfl))) se_non (nomark _)) (se_one (se_cmp (sop_lt G.sys G.un) (se_bin sop_mulA (se_fnB (sf_min2 G.calm) (gl_of (by kernel_rfl)) (S.no 45 (by kernel_rfl)) (by kernel_rfl) (sb_cons (se_var (i := 8) (by kernel_rfl) (.inl (by kernel_rfl))) (sb_cons (se_var (i := 2) (by kernel_rfl) (.inr (.inl (by kernel_rfl)))) sb_nil))) se_int) (se_var (i := 7) (by kernel_rfl) (.inl (by kernel_rfl))) (nomark _)))) sa_nil)) (ln_cons (ln_cons ln_nil))))) (ss_one (ss_retF se_bl)) ss_nil) (ss_cons (ss_own (i := 9) ⟨(by exact G.nd), (by kernel_rfl), .inl (by kernel_rfl), .inl rfl⟩ (se_lst sa_nil ln_nil)) (ss_cons (ss_for hp G.calm (si_rng1 (gl_of (by kernel_rfl)) (S.no 46 (by kernel_rfl)) (se_fnB sf_len (gl_of (by kernel_rfl)) (S.no 43 (by kernel_rfl)) (by kernel_rfl) (sb_cons (se_var (i := 3) (by kernel_rfl) (.inl (by kernel_rfl))) sb_nil))) (sg_nm (i := 10) ⟨(by exact G.nd), (by kernel_rfl), .inl (by kernel_rfl), .inl rfl⟩) (ss_cons (ss_set (i := 11) ⟨(by exact G.nd), (by kernel_rfl), .inr (by kernel_rfl), .inl rfl⟩ (se_tup (sa_cons (se_var (i := 2) (by kernel_rfl) (.inr (.inl (by kernel_rfl)))) (sa_cons (se_bin sop_addA (se_slA (se_var (i := 3) (by kernel_rfl) (.inl (by kernel_rfl))) so_no (so_at (se_var (i := 10) (by kernel_rfl) (.inl (by kernel_rfl))))) (se_slA (se_var (i := 3) (by kernel_rfl) (.inl (by kernel_rfl))) (so_at (se_bin sop_addA (se_var (i := 10) (by kernel_rfl) (.inl (by kernel_rfl))) se_int)) so_no)) sa_nil)) (ln_cons (ln_cons ln_nil)))) (ss_one (ss_ext (i := 9) ⟨(by exact G.nd), (by kernel_rfl), .inl (by kernel_rfl), .inl rfl⟩ (.inl (by kernel_rfl)) (se_bin sop_mulL (se_lst (sa_cons (se_var (i := 10) (by kernel_rfl) (.inl (by kernel_rfl))) sa_nil) (ln_cons ln_nil)) (se_fnT sf_int (gl_of (by kernel_rfl)) (S.no 41 (by kernel_rfl)) (by kernel_rfl) (sb_cons (se_cmp (sop_eq G.sys G.un) (se_fnB sf_len (gl_of (by kernel_rfl)) (S.no 43 (by kernel_rfl)) (by kernel_rfl) (sb_cons (se_lc (own := [(".0", 18), ("one", 5)]) (is := [5]) G.calm G.nd (blkOk_by (by kernel_rfl)) (by decide) (si_seq (se_var (i := 4) (by kernel_rfl) (.inl (by kernel_rfl)))) (fun _ _ _ _ _ => (sg_nm (i := 5) ⟨(by exact G.nd), (by kernel_rfl), .inl (by kernel_rfl), .inr (by kernel_rfl)⟩)) (fun _ _ _ _ _ => (sts_one (st_cmp (sop_eq G.sys G.un) (se_fnB sf_len (gl_of (by kernel_rfl)) (S.no 43 (by kernel_rfl)) (by kernel_rfl) (sb_cons (se_callP (G.blk _ _ _ _ _ _) p__law_odd (by decide) (gl_of (by kernel_rfl)) (sa_cons (se_var (i := 11) (by kernel_rfl) (.inr (.inl (by kernel_rfl)))) (sa_cons (se_var (i := 5) (by kernel_rfl) (.inl (by kernel_rfl))) sa_nil)) (ln_cons (ln_cons ln_nil))) sb_nil)) se_int (nomark _)))) (fun _ _ _ _ _ => se_int)) sb_nil)) (se_fnB sf_len (gl_of (by kernel_rfl)) (S.no 43 (by kernel_rfl)) (by kernel_rfl) (sb_cons (se_var (i := 6) (by kernel_rfl) (.inl (by kernel_rfl))) sb_nil)) (nomark _)) sb_nil))))))) (ss_cons (ss_if (st_cmp (sop_ne G.sys G.un) (se_fnB (sf_repr G.sys G.un G.gu) (gl_of (by kernel_rfl)) (S.no 47 (by kernel_rfl)) (by kernel_rfl) (sb_cons (se_callP G p_needless_lots (by decide) (gl_of (by kernel_rfl)) (sa_cons (se_var (i := 1) (by kernel_rfl) (.inr (.inl (by kernel_rfl)))) sa_nil) (ln_cons ln_nil)) sb_nil)) (se_fnB (sf_repr G.sys G.un G.gu) (gl_of (by kernel_rfl)) (S.no 47 (by kernel_rfl)) (by kernel_rfl) (sb_cons (se_fnT sf_tup (gl_of (by kernel_rfl)) (S.no 51 (by kernel_rfl)) (by kernel_rfl) (sb_cons (se_varB (i := 9) (by kernel_rfl) (.inl (by kernel_rfl))) sb_nil)) sb_nil)) (nomark _)) (ss_one (ss_retF se_bl)) ss_nil) (ss_cons (ss_asg (se_tup (sa_cons (se_callP G p__law_some (by decide) (gl_of (by kernel_rfl)) (sa_cons (se_var (i := 0) (by kernel_rfl) (.inr (.inl (by kernel_rfl)))) (sa_cons (se_var (i := 4) (by kernel_rfl) (.inl (by kernel_rfl))) sa_nil)) (ln_cons (ln_cons ln_nil))) (sa_cons (SE.froz (se_lc (own := [(".0", 18), ("place", 19)]) (is := [19]) G.calm G.nd (blkOk_by (by kernel_rfl)) (by decide) (si_rng1 (gl_of (by kernel_rfl)) (S.no 46 (by kernel_rfl)) (se_bin sop_addA se_int (se_callP G p__law_draw (by decide) (gl_of (by kernel_rfl)) (sa_cons (se_var (i := 0) (by kernel_rfl) (.inr (.inl (by kernel_rfl)))) (sa_cons se_int sa_nil)) (ln_cons (ln_cons ln_nil))))) (fun _ _ _ _ _ => (sg_nm (i := 19) ⟨(by exact G.nd), (by kernel_rfl), .inl (by kernel_rfl), .inr (by kernel_rfl)⟩)) (fun _ _ _ _ _ => sts_nil) (fun _ _ _ _ _ => (se_callP (G.blk _ _ _ _ _ _) p__law_draw (by decide) (gl_of (by kernel_rfl)) (sa_cons (se_var (i := 0) (by kernel_rfl) (.inr (.inl (by kernel_rfl)))) (sa_cons (se_var (i := 2) (by kernel_rfl) (.inr (.inl (by kernel_rfl)))) sa_nil)) (ln_cons (ln_cons ln_nil)))))) sa_nil)) (ln_cons (ln_cons ln_nil))) (sg_tup (n := 2) G.calm (sg_cons (sg_nm (i := 12) ⟨(by exact G.nd), (by kernel_rfl), .inl (by kernel_rfl), .inl rfl⟩) (sg_cons (sg_nm (i := 13) ⟨(by exact G.nd), (by kernel_rfl), .inr (by kernel_rfl), .inl rfl⟩) sg_nil)) (gl_len_cons (gl_len_cons gl_len_nil)))) (ss_cons (ss_set (i := 14) ⟨(by exact G.nd), (by kernel_rfl), .inr (by kernel_rfl), .inl rfl⟩ (se_fnT sf_tup (gl_of (by kernel_rfl)) (S.no 51 (by kernel_rfl)) (by kernel_rfl) (sb_cons (se_lc (own := [(".0", 18), ("place", 19), ("one", 5)]) (is := [19, 5]) G.calm G.nd (blkOk_by (by kernel_rfl)) (by decide) (si_enum (gl_of (by kernel_rfl)) (S.no 40 (by kernel_rfl)) (se_var (i := 12) (by kernel_rfl) (.inl (by kernel_rfl)))) (fun _ _ _ _ _ => (sg_tup (n := 2) G.calm (sg_cons (sg_nm (i := 19) ⟨(by exact G.nd), (by kernel_rfl), .inl (by kernel_rfl), .inr (by kernel_rfl)⟩) (sg_cons (sg_nm (i := 5) ⟨(by exact G.nd), (by kernel_rfl), .inl (by kernel_rfl), .inr (by kernel_rfl)⟩) sg_nil)) (gl_len_cons (gl_len_cons gl_len_nil)))) (fun _ _ _ _ _ => sts_nil) (fun _ _ _ _ _ => (se_if (st_cmp (sop_in G.sys G.un) (se_var (i := 19) (by kernel_rfl) (.inl (by kernel_rfl))) (se_var (i := 13) (by kernel_rfl) (.inr (.inl (by kernel_rfl)))) (by with_unfolding_all rfl)) se_non (se_var (i := 5) (by kernel_rfl) (.inl (by kernel_rfl)))))) sb_nil))) (ss_cons (ss_setLc (own := [(".0", 18), ("one", 5)]) (is := [5]) (i := 15) ⟨(by exact G.nd), (by kernel_rfl), .inl (by kernel_rfl), .inl rfl⟩ (by kernel_rfl) G.calm (by kernel_rfl) (blkOk_by (by kernel_rfl)) (by decide) (si_seq (se_var (i := 6) (by kernel_rfl) (.inl (by kernel_rfl)))) (fun _ _ _ _ _ => (sg_nm (i := 5) ⟨(by exact G.nd), (by kernel_rfl), .inl (by kernel_rfl), .inr (by kernel_rfl)⟩)) (fun _ _ _ _ _ => (sts_one (st_val (se_fnB (sf_all G.calm G.sys) (gl_of (by kernel_rfl)) (S.no 37 (by kernel_rfl)) (by kernel_rfl) (sb_cons (se_lc (own := [(".0", 18), ("a", 20), ("b", 21)]) (is := [20, 21]) G.calm G.nd (blkOk_by (by kernel_rfl)) (by decide) (si_zip (gl_of (by kernel_rfl)) (S.no 52 (by kernel_rfl)) (se_var (i := 14) (by kernel_rfl) (.inr (.inl (by kernel_rfl)))) (se_var (i := 5) (by kernel_rfl) (.inl (by kernel_rfl)))) (fun _ _ _ _ _ => (sg_tup (n := 2) G.calm (sg_cons (sg_nm (i := 20) ⟨(by exact G.nd), (by kernel_rfl), .inl (by kernel_rfl), .inr (by kernel_rfl)⟩) (sg_cons (sg_nm (i := 21) ⟨(by exact G.nd), (by kernel_rfl), .inl (by kernel_rfl), .inr (by kernel_rfl)⟩) sg_nil)) (gl_len_cons (gl_len_cons gl_len_nil)))) (fun _ _ _ _ _ => sts_nil) (fun _ _ _ _ _ => (se_or (se_cmp sop_is (se_var (i := 20) (by kernel_rfl) (.inl (by kernel_rfl))) se_non (nomark _)) (se_one (se_cmp (sop_eq G.sys G.un) (se_var (i := 20) (by kernel_rfl) (.inl (by kernel_rfl))) (se_var (i := 21) (by kernel_rfl) (.inl (by kernel_rfl))) (nomark _)))))) sb_nil))))) (fun _ _ _ _ _ => (se_var (i := 5) (by kernel_rfl) (.inl (by kernel_rfl))))) (ss_cons (ss_if (st_cmp (sop_ne G.sys G.un) (se_fnB (sf_repr G.sys G.un G.gu) (gl_of (by kernel_rfl)) (S.no 47 (by kernel_rfl)) (by kernel_rfl) (sb_cons (se_callP G p_filled (by decide) (gl_of (by kernel_rfl)) (sa_cons (se_var (i := 1) (by kernel_rfl) (.inr (.inl (by kernel_rfl)))) (sa_cons (se_var (i := 14) (by kernel_rfl) (.inr (.inl (by kernel_rfl)))) sa_nil)) (ln_cons (ln_cons ln_nil))) sb_nil)) (se_fnB (sf_repr G.sys G.un G.gu) (gl_of (by kernel_rfl)) (S.no 47 (by kernel_rfl)) (by kernel_rfl) (sb_cons (se_fnT sf_tup (gl_of (by kernel_rfl)) (S.no 51 (by kernel_rfl)) (by kernel_rfl) (sb_cons (se_var (i := 15) (by kernel_rfl) (.inl (by kernel_rfl))) sb_nil)) sb_nil)) (nomark _)) (ss_one (ss_retF se_bl)) ss_nil) (ss_cons (ss_par (i := 5) (j := 16) G.calm ⟨(by exact G.nd), (by kernel_rfl), .inl (by kernel_rfl), .inl rfl⟩ ⟨(by exact G.nd), (by kernel_rfl), .inl (by kernel_rfl), .inl rfl⟩ (by decide) (by kernel_rfl) (by kernel_rfl) (sa_cons (se_callP G p__law_some (by decide) (gl_of (by kernel_rfl)) (sa_cons (se_var (i := 0) (by kernel_rfl) (.inr (.inl (by kernel_rfl)))) (sa_cons (se_var (i := 6) (by kernel_rfl) (.inl (by kernel_rfl))) sa_nil)) (ln_cons (ln_cons ln_nil))) (sa_cons (se_callP G p__law_some (by decide) (gl_of (by kernel_rfl)) (sa_cons (se_var (i := 0) (by kernel_rfl) (.inr (.inl (by kernel_rfl)))) (sa_cons (se_var (i := 6) (by kernel_rfl) (.inl (by kernel_rfl))) sa_nil)) (ln_cons (ln_cons ln_nil))) sa_nil)) (by kernel_rfl)) (ss_cons (ss_set (i := 17) ⟨(by exact G.nd), (by kernel_rfl), .inl (by kernel_rfl), .inl rfl⟩ (se_fnT sf_tup (gl_of (by kernel_rfl)) (S.no 51 (by kernel_rfl)) (by kernel_rfl) (sb_cons (se_lc (own := [(".0", 18), ("a", 20), ("b", 21)]) (is := [20, 21]) G.calm G.nd (blkOk_by (by kernel_rfl)) (by decide) (si_zip (gl_of (by kernel_rfl)) (S.no 52 (by kernel_rfl)) (se_var (i := 5) (by kernel_rfl) (.inl (by kernel_rfl))) (se_var (i := 16) (by kernel_rfl) (.inl (by kernel_rfl)))) (fun _ _ _ _ _ => (sg_tup (n := 2) G.calm (sg_cons (sg_nm (i := 20) ⟨(by exact G.nd), (by kernel_rfl), .inl (by kernel_rfl), .inr (by kernel_rfl)⟩) (sg_cons (sg_nm (i := 21) ⟨(by exact G.nd), (by kernel_rfl), .inl (by kernel_rfl), .inr (by kernel_rfl)⟩) sg_nil)) (gl_len_cons (gl_len_cons gl_len_nil)))) (fun _ _ _ _ _ => sts_nil) (fun _ _ _ _ _ => (se_bin sop_mod (se_fnT sf_int (gl_of (by kernel_rfl)) (S.no 41 (by kernel_rfl)) (by kernel_rfl) (sb_cons (se_bin sop_addA (se_var (i := 20) (by kernel_rfl) (.inl (by kernel_rfl))) (se_var (i := 21) (by kernel_rfl) (.inl (by kernel_rfl)))) sb_nil)) se_int))) sb_nil))) (ss_one (ss_retF (se_and (se_cmp (sop_eq G.sys G.un) (se_fnB (sf_repr G.sys G.un G.gu) (gl_of (by kernel_rfl)) (S.no 47 (by kernel_rfl)) (by kernel_rfl) (sb_cons (se_callP G p_summed (by decide) (gl_of (by kernel_rfl)) (sa_cons (se_var (i := 5) (by kernel_rfl) (.inl (by kernel_rfl))) (sa_cons (se_var (i := 16) (by kernel_rfl) (.inl (by kernel_rfl))) sa_nil)) (ln_cons (ln_cons ln_nil))) sb_nil)) (se_fnB (sf_repr G.sys G.un G.gu) (gl_of (by kernel_rfl)) (S.no 47 (by kernel_rfl)) (by kernel_rfl) (sb_cons (se_var (i := 17) (by kernel_rfl) (.inl (by kernel_rfl))) sb_nil)) (nomark _)) (se_one (se_cmp (sop_eq G.sys G.un) (se_callP G p_right_or_odd (by decide) (gl_of (by kernel_rfl)) (sa_cons (se_var (i := 1) (by kernel_rfl) (.inr (.inl (by kernel_rfl)))) (sa_cons (se_callP G p_summed (by decide) (gl_of (by kernel_rfl)) (sa_cons (se_var (i := 5) (by kernel_rfl) (.inl (by kernel_rfl))) (sa_cons (se_var (i := 16) (by kernel_rfl) (.inl (by kernel_rfl))) sa_nil)) (ln_cons (ln_cons ln_nil))) sa_nil)) (ln_cons (ln_cons ln_nil))) (se_tup (sa_cons se_str sa_nil) (ln_cons ln_nil)) (nomark _))))))))))))))))))))))))))
def M_law : Sx := (sSeq (sOwn 1 (eFn F__law_hand (lCons (eVar 0) lNil))) (sPin 1 (sSeq (sSet 2 (eTup (lCons (eC (.int 3)) (lCons (eTup (lCons (eTup (lCons (eC (.int 0)) (lCons (eC (.int 1)) lNil))) (lCons (eTup (lCons (eC (.int 1)) (lCons (eC (.int 2)) lNil))) lNil))) lNil)))) (sSeq (sIf (tV (eBin (pur neD) (eFn F_right_or_odd (lCons (eVar 2) (lCons (eTup (lCons (eC (.int 0)) (lCons (eC (.int 1)) (lCons (eC (.int 0)) lNil)))) lNil))) (eTup (lCons (eC (.str "odd")) (lCons (eTup (lCons (eC (.int 0)) (lCons (eC (.int 1)) lNil))) lNil))))) (sRet (eC (.bl false))) sNil) (sSeq (sIf (tOr' (tV (eBin (pur neD) (eFn F_mended_or_doubt (lCons (eVar 2) (lCons (eTup (lCons (eC (.int 0)) (lCons (eC (.int 1)) (lCons (eC (.int 0)) lNil)))) lNil))) (eTup (lCons (eC (.str "mended")) (lCons (eTup (lCons (eC (.int 0)) (lCons (eC (.int 0)) (lCons (eC (.int 0)) lNil)))) lNil))))) (tV (eBin (pur isntOp) (eFn F_mends (lCons (eVar 2) (lCons (eC (.int 1)) lNil))) (eC (.bl true))))) (sRet (eC (.bl false))) sNil) (sSeq (sIf (tV (eBin (pur neD) (eFn F_least_apart (lCons (eVar 2) lNil)) (eC (.int 3)))) (sRet (eC (.bl false))) sNil) (sSeq (sIf (tOr' (tV (eBin (pur neD) (eFn F_mended_or_doubt (lCons (eTup (lCons (eC (.int 2)) (lCons (eTup (lCons (eTup (lCons (eC (.int 0)) (lCons (eC (.int 1)) lNil))) lNil)) lNil))) (lCons (eTup (lCons (eC (.int 0)) (lCons (eC (.int 1)) lNil))) lNil))) (eTup (lCons (eC (.str "doubt")) (lCons (eC (.int 1)) (lCons (eC (.int 2)) lNil)))))) (tV (eBin (pur neD) (eFn F_filled (lCons (eTup (lCons (eC (.int 2)) (lCons (eTup (lCons (eTup (lCons (eC (.int 0)) (lCons (eC (.int 1)) lNil))) lNil)) lNil))) (lCons (eTup (lCons (eC .non) (lCons (eC (.int 1)) lNil))) lNil))) (eTup (lCons (eTup (lCons (eC (.int 1)) (lCons (eC (.int 1)) lNil))) lNil))))) (sRet (eC (.bl false))) sNil) (sSeq (sIf (tV (eBin (pur isntOp) (eFn F_least_apart (lCons (eTup (lCons (eC (.int 1)) (lCons (eTup (lCons (eTup (lCons (eC (.int 0)) lNil)) lNil)) lNil))) lNil)) (eC .non))) (sRet (eC (.bl false))) sNil) (sRet (eFn (g1 fun d => lift (allD d)) (lCons (eLc [3, 4] (iRng1S (eC (.int 4))) (gNm 4) tYesS (eFn F__law_right (lCons (eVar 1) lNil))) lNil)))))))))))
def F_law : Fx := callS .froz M_law
theorem p_law (S : Says fa fn K mg) : Prm P w K mg base 9 "law" ["script"] .froz F_law := by
  have p_right_or_odd := p_right_or_odd (P := P) (w := w) (base := base) S
  have p_mended_or_doubt := p_mended_or_doubt (P := P) (w := w) (base := base) S
  have p_least_apart := p_least_apart (P := P) (w := w) (base := base) S
  have p_mends := p_mends (P := P) (w := w) (base := base) S
  have p_filled := p_filled (P := P) (w := w) (base := base) S
  have p__law_hand := p__law_hand (P := P) (w := w) (base := base) S
  have p__law_right := p__law_right (P := P) (w := w) (base := base) S
  refine prm_of (N := ["script", "hand", "three", ".0", "turn"]) (m := M_law) S 35 35 (d := mkD "law" 48) (by kernel_rfl) (by kernel_rfl) rfl rfl rfl ⟨by kernel_rfl, by kernel_rfl, by kernel_rfl, by decide +kernel, by kernel_rfl, by decide +kernel, by decide +kernel⟩ (fun _ _ _ _ _ _ us hl => match us, hl with | [_], _ => rfl) fun f cd A outer s W E G hp => ?_
  exact (ss_cons (ss_own (i := 1) ⟨(by exact G.nd), (by kernel_rfl), .inr (by kernel_rfl), .inl rfl⟩ (se_callP G p__law_hand (by decide) (gl_of (by kernel_rfl)) (sa_cons (se_var (i := 0) (by kernel_rfl) (.inl (by kernel_rfl))) sa_nil) (ln_cons ln_nil))) (ss_pins (i := 1) (ss_cons (ss_set (i := 2) ⟨(by exact G.nd), (by kernel_rfl), .inl (by kernel_rfl), .inl rfl⟩ (se_tup (sa_cons se_int (sa_cons (se_tup (sa_cons (se_tup (sa_cons se_int (sa_cons se_int sa_nil)) (ln_cons (ln_cons ln_nil))) (sa_cons (se_tup (sa_cons se_int (sa_cons se_int sa_nil)) (ln_cons (ln_cons ln_nil))) sa_nil)) (ln_cons (ln_cons ln_nil))) sa_nil)) (ln_cons (ln_cons ln_nil)))) (ss_cons (ss_if (st_cmp (sop_ne G.sys G.un) (se_callP G p_right_or_odd (by decide) (gl_of (by kernel_rfl)) (sa_cons (se_var (i := 2) (by kernel_rfl) (.inl (by kernel_rfl))) (sa_cons (se_tup (sa_cons se_int (sa_cons se_int (sa_cons se_int sa_nil))) (ln_cons (ln_cons (ln_cons ln_nil)))) sa_nil)) (ln_cons (ln_cons ln_nil))) (se_tup (sa_cons se_str (sa_cons (se_tup (sa_cons se_int (sa_cons se_int sa_nil)) (ln_cons (ln_cons ln_nil))) sa_nil)) (ln_cons (ln_cons ln_nil))) (nomark _)) (ss_one (ss_retF se_bl)) ss_nil) (ss_cons (ss_if (SW.st (sw_or (st_cmp (sop_ne G.sys G.un) (se_callP G p_mended_or_doubt (by decide) (gl_of (by kernel_rfl)) (sa_cons (se_var (i := 2) (by kernel_rfl) (.inl (by kernel_rfl))) (sa_cons (se_tup (sa_cons se_int (sa_cons se_int (sa_cons se_int sa_nil))) (ln_cons (ln_cons (ln_cons ln_nil)))) sa_nil)) (ln_cons (ln_cons ln_nil))) (se_tup (sa_cons se_str (sa_cons (se_tup (sa_cons se_int (sa_cons se_int (sa_cons se_int sa_nil))) (ln_cons (ln_cons (ln_cons ln_nil)))) sa_nil)) (ln_cons (ln_cons ln_nil))) (nomark _)) (sw_or1 (st_cmp sop_isnt (se_callP G p_mends (by decide) (gl_of (by kernel_rfl)) (sa_cons (se_var (i := 2) (by kernel_rfl) (.inl (by kernel_rfl))) (sa_cons se_int sa_nil)) (ln_cons (ln_cons ln_nil))) se_bl (nomark _))))) (ss_one (ss_retF se_bl)) ss_nil) (ss_cons (ss_if (st_cmp (sop_ne G.sys G.un) (se_callP G p_least_apart (by decide) (gl_of (by kernel_rfl)) (sa_cons (se_var (i := 2) (by kernel_rfl) (.inl (by kernel_rfl))) sa_nil) (ln_cons ln_nil)) se_int (nomark _)) (ss_one (ss_retF se_bl)) ss_nil) (ss_cons (ss_if (SW.st (sw_or (st_cmp (sop_ne G.sys G.un) (se_callP G p_mended_or_doubt (by decide) (gl_of (by kernel_rfl)) (sa_cons (se_tup (sa_cons se_int (sa_cons (se_tup (sa_cons (se_tup (sa_cons se_int (sa_cons se_int sa_nil)) (ln_cons (ln_cons ln_nil))) sa_nil) (ln_cons ln_nil)) sa_nil)) (ln_cons (ln_cons ln_nil))) (sa_cons (se_tup (sa_cons se_int (sa_cons se_int sa_nil)) (ln_cons (ln_cons ln_nil))) sa_nil)) (ln_cons (ln_cons ln_nil))) (se_tup (sa_cons se_str (sa_cons se_int (sa_cons se_int sa_nil))) (ln_cons (ln_cons (ln_cons ln_nil)))) (nomark _)) (sw_or1 (st_cmp (sop_ne G.sys G.un) (se_callP G p_filled (by decide) (gl_of (by kernel_rfl)) (sa_cons (se_tup (sa_cons se_int (sa_cons (se_tup (sa_cons (se_tup (sa_cons se_int (sa_cons se_int sa_nil)) (ln_cons (ln_cons ln_nil))) sa_nil) (ln_cons ln_nil)) sa_nil)) (ln_cons (ln_cons ln_nil))) (sa_cons (se_tup (sa_cons se_non (sa_cons se_int sa_nil)) (ln_cons (ln_cons ln_nil))) sa_nil)) (ln_cons (ln_cons ln_nil))) (se_tup (sa_cons (se_tup (sa_cons se_int (sa_cons se_int sa_nil)) (ln_cons (ln_cons ln_nil))) sa_nil) (ln_cons ln_nil)) (nomark _))))) (ss_one (ss_retF se_bl)) ss_nil) (ss_cons (ss_if (st_cmp sop_isnt (se_callP G p_least_apart (by decide) (gl_of (by kernel_rfl)) (sa_cons (se_tup (sa_cons se_int (sa_cons (se_tup (sa_cons (se_tup (sa_cons se_int sa_nil) (ln_cons ln_nil)) sa_nil) (ln_cons ln_nil)) sa_nil)) (ln_cons (ln_cons ln_nil))) sa_nil) (ln_cons ln_nil)) se_non (nomark _)) (ss_one (ss_retF se_bl)) ss_nil) (ss_one (ss_retF (se_fnB (sf_all G.calm G.sys) (gl_of (by kernel_rfl)) (S.no 37 (by kernel_rfl)) (by kernel_rfl) (sb_cons (se_lc (own := [(".0", 3), ("turn", 4)]) (is := [4]) G.calm G.nd (blkOk_by (by kernel_rfl)) (by decide) (si_rng1 (gl_of (by kernel_rfl)) (S.no 46 (by kernel_rfl)) se_int) (fun _ _ _ _ _ => (sg_nm (i := 4) ⟨(by exact G.nd), (by kernel_rfl), .inl (by kernel_rfl), .inr (by kernel_rfl)⟩)) (fun _ _ _ _ _ => sts_nil) (fun _ _ _ _ _ => (se_callP (G.blk _ _ _ _ _ _) p__law_right (by decide) (gl_of (by kernel_rfl)) (sa_cons (se_var (i := 1) (by kernel_rfl) (.inr (.inl (by kernel_rfl)))) sa_nil) (ln_cons ln_nil)))) sb_nil))))))))))))
end
end Lw88


set_option Elab.async false
set_option linter.all false
set_option maxRecDepth 100000
set_option maxHeartbeats 2000000
namespace Lw88
open PySem PySem.Spec L2 Sm
@[simp] theorem is_integer_eq {d : D} {st : Store} (h : dat 60 d = true) : F_is_integer [d] st = .ok (.bl d.isInt) st := by
  have := isa_T h
  rw [← this.1]
  simp [F_is_integer, M_is_integer, h]
  cases d.py.isInt <;> simp [h]
@[simp] theorem is_within_eq {d : D} {lo hi : Int} {st : Store} (h : dat 60 d = true) : F_is_within [d, .int lo, .int hi] st = .ok (.bl (inR lo hi d)) st := by
  cases d with
  | int i =>
    simp [F_is_within, M_is_within, D.isInt, inR]
    by_cases z : lo ≤ i <;> simp [z]
  | _ => simp [F_is_within, M_is_within, h, D.isInt, inR]
@[simp] theorem is_number_eq {d : D} {st : Store} (h : dat 60 d = true) : F_is_number [d] st = .ok (.bl (match d with | .int i => decide (0 ≤ i) | _ => false)) st := by
  cases d with
  | int i => simp [F_is_number, M_is_number, D.isInt]
  | _ => simp [F_is_number, M_is_number, h, D.isInt]
@[simp] theorem is_tuple_eq {d : D} {a b : Int} {st : Store} (h : dat 60 d = true) : F_is_tuple [d, .int a, .int b] st = .ok (.bl (match d with | .tup xs => decide (a ≤ xs.length ∧ (xs.length : Int) ≤ b) | _ => false)) st := by
  have e := (isa_T h).2.1
  cases d with
  | tup xs =>
    simp only [D.isTup] at e
    simp [F_is_tuple, M_is_tuple, h, e]
    by_cases z : a ≤ xs.length <;> simp [z]
  | _ =>
    simp only [D.isTup] at e
    simp [F_is_tuple, M_is_tuple, h, e]
/-- strictly up -/
def incI : List Int → Bool
  | a :: b :: r => decide (a < b) && incI (b :: r)
  | _ => true
theorem zip_inc : ∀ ns : List Int, ((ns.zip (ns.drop 1)).all fun p => decide (p.1 < p.2)) = incI ns
  | [] => rfl
  | [a] => rfl
  | a :: b :: r => by
    have := zip_inc (b :: r)
    simp only [List.drop_succ_cons, List.drop_zero] at this ⊢
    simp only [List.zip_cons_cons, List.all_cons, incI, this]
def lotB (many : Int) : D → Bool
  | .tup xs => xs.all (inR 0 (many - 1)) && (match intsD xs with | some ns => incI ns | none => false)
  | _ => false
theorem dat_all {xs : List D} (h : dat 60 (.tup xs) = true) : ∀ x ∈ xs, dat 60 x = true := fun x hx => by
  rw [dat_tup60, List.all_eq_true] at h
  exact dat_up 59 x (h x hx)
@[simp] theorem is_lot_eq {d : D} {many : Int} {st : Store} (h : dat 60 d = true) (hl : ∀ xs, d = .tup xs → xs.length ≤ line) : F_is_lot [d, .int many] st = .ok (.bl (lotB many d)) st := by
  have e := (isa_T h).2.1
  cases d with
  | tup xs =>
    simp only [D.isTup] at e
    have hx := dat_all h
    have hz := hl xs rfl
    have c1 : ∀ {vs it g t m env}, it env st = .ok xs st → (∀ e, t e st = .ok true st) → (∀ x ∈ xs, ∃ e1, g x (env.clr vs) = some e1 ∧ m e1 st = .ok (.bl (inR 0 (many - 1) x)) st) → eLc vs it g t m env st = .ok (.lst (xs.map fun x => .bl (inR 0 (many - 1) x))) st := fun {vs it g t m env} h1 h2 h3 =>
      eLc_map xs id _ (by simpa using h1) hz h2 h3
    by_cases q : xs.all (inR 0 (many - 1)) = true
    · obtain ⟨ns, rfl, hns⟩ := inR_all q
      have e2 : allD (.lst ((ns.map D.int).map fun x => .bl (inR 0 (many - 1) x))) = some (.bl true) := by
        rw [allD_p, all_inR hns]
      simp [F_is_lot, M_is_lot, h, e]
      rw [c1]
      · simp only [e2]
        simp
        rw [eLc_map (st1 := st) (ns.zip (ns.drop 1)) (fun p => .tup [.int p.1, .int p.2]) (fun p => .bl (decide (p.1 < p.2)))]
        · have z := zip_inc ns
          rw [List.drop_one] at z
          simp [z, lotB, all_inR hns]
        · rw [iZip_eq (xs := ns.map D.int) (ys := (ns.drop 1).map D.int) (x := .tup (ns.map D.int)) (y := .tup ((ns.drop 1).map D.int))]
          · rw [zipD_map]
          · simp
          · simp [eSl, pAt, pNo, slA, cut1]
          · rfl
          · rfl
        · simp at hz ⊢
          omega
        · simp
        · exact fun p hp => ⟨_, rfl, by simp⟩
      · simp
      · simp
      · exact fun x hx' => ⟨_, rfl, by simp [hx x hx']⟩
    · have q' : xs.all (inR 0 (many - 1)) = false := by simpa using q
      have e2 : allD (.lst (xs.map fun x => .bl (inR 0 (many - 1) x))) = some (.bl false) := by
        rw [allD_p, q']
      simp [F_is_lot, M_is_lot, h, e, lotB, q']
      rw [c1]
      · simp only [e2]
        simp
      · simp
      · simp
      · exact fun x hx' => ⟨_, rfl, by simp [hx x hx']⟩
  | _ =>
    simp only [D.isTup] at e
    simp [F_is_lot, M_is_lot, h, e, lotB]
end Lw88


set_option Elab.async false
set_option linter.all false
set_option maxRecDepth 100000
set_option maxHeartbeats 2000000
namespace Lw88
open PySem PySem.Spec L2 Sm
def msgB (a b : Int) : D → Bool
  | .tup xs => decide (a ≤ xs.length ∧ (xs.length : Int) ≤ b) && xs.all (inR 0 1)
  | _ => false
@[simp] theorem is_message_eq {d : D} {a b : Int} {st : Store} (h : dat 60 d = true) (hb : b ≤ 16777216) : F_is_message [d, .int a, .int b] st = .ok (.bl (msgB a b d)) st := by
  cases d with
  | tup xs =>
    have hx := dat_all h
    by_cases q : a ≤ xs.length ∧ (xs.length : Int) ≤ b
    · have hz : xs.length ≤ 16777216 := by
        have := q.2
        omega
      simp [-List.map_map, F_is_message, M_is_message, h, msgB, q]
      rw [eLc_map (st1 := st) xs id (fun x => .bl (inR 0 1 x)) (by simp [-List.map_map]) hz]
      · simp only [allD_p]; simp [-List.map_map]
      · simp [-List.map_map]
      · exact fun x hx' => ⟨_, rfl, by simp [-List.map_map, hx x hx']⟩
    · simp [-List.map_map, F_is_message, M_is_message, h, msgB, q]
  | _ => simp [-List.map_map, F_is_message, M_is_message, h, msgB]
structure Gok (n : Nat) (L : List (List Int)) : Prop where
  n1 : 1 ≤ n
  n8 : n ≤ 8
  few : L.length ≤ 5
  up : ∀ l ∈ L, incI l = true
  inn : ∀ l ∈ L, ∀ x ∈ l, 0 ≤ x ∧ x < n
  ne : ∀ l ∈ L, 1 ≤ l.length ∧ l.length ≤ 8
def gD (n : Nat) (L : List (List Int)) : D := .tup [.int n, .tup (L.map tI)]
@[simp] theorem ixD_gD0 {n : Nat} {L : List (List Int)} : ixD (gD n L) (.int 0) = lift (some (.int n)) := rfl
@[simp] theorem ixD_gD1 {n : Nat} {L : List (List Int)} : ixD (gD n L) (.int 1) = lift (some (.tup (L.map tI))) := rfl
structure Mok (n : Nat) (m : List Int) : Prop where
  len : m.length = n
  bit : ∀ x ∈ m, x = 0 ∨ x = 1
@[simp] theorem dat_tI {n : Nat} {m : List Int} : dat (n + 1) (tI m) = true := by simp [-List.map_map, tI]
@[simp] theorem dat_tI60 {m : List Int} : dat 60 (tI m) = true := dat_tI (n := 59)
@[simp] theorem dat_tI59 {m : List Int} : dat 59 (tI m) = true := dat_tI (n := 58)
@[simp] theorem dat_tI58 {m : List Int} : dat 58 (tI m) = true := dat_tI (n := 57)
@[simp] theorem dat_gD {n : Nat} {L : List (List Int)} : dat 60 (gD n L) = true := by simp [-List.map_map, gD]
theorem Mok.msg {n : Nat} {m : List Int} (h : Mok n m) : msgB n n (tI m) = true := by
  simp only [msgB, tI, List.length_map, h.len, Bool.and_eq_true, decide_eq_true_eq]
  exact ⟨by omega, all_inR fun x hx => by rcases h.bit x hx with z | z <;> omega⟩
theorem check_guards_eq {n : Nat} {L : List (List Int)} {st : Store} (h : Gok n L) : F_check_guards [gD n L] st = .ok .non st := by
  have h1 := h.n1
  have h8 := h.n8
  have hf := h.few
  have lot : ∀ l ∈ L, lotB n (tI l) = true := fun l hl => by
    simp only [lotB, tI, intsD_ints, h.up l hl, Bool.and_true]
    exact all_inR fun x hx => by have := h.inn l hl x hx; omega
  have e1 : inR 1 8 (.int n) = true := by simp only [inR, decide_eq_true_eq]; omega
  have e2 : ((L.length : Int) ≤ 5) = True := by simp only [eq_iff_iff, iff_true]; omega
  have e0 : F_is_tuple [gD n L, .int 2, .int 2] st = .ok (.bl true) st := by simp [-List.map_map, gD]
  have e4 : F_is_within [.int n, .int 1, .int 8] st = .ok (.bl true) st := by rw [is_within_eq (by simp [-List.map_map]), e1]
  have e5 : F_is_tuple [.tup (L.map tI), .int 0, .int 5] st = .ok (.bl true) st := by
    rw [is_tuple_eq (by simp [-List.map_map])]
    simp [-List.map_map, e2]
  simp [-List.map_map, F_check_guards, M_check_guards, e0, e4, e5]
  rw [eLc_map (st1 := st) L tI (fun _ => .bl true) (by simp [-List.map_map]) (toLine (by omega))]
  · have : allD (.lst (L.map fun _ => .bl true)) = some (.bl true) := by rw [allD_p L (fun _ => true)]; simp [-List.map_map]
    simp [-List.map_map, this]
  · simp [-List.map_map]
  · intro l hl
    refine ⟨_, rfl, ?_⟩
    have hn := h.ne l hl
    have e3 : F_is_lot [tI l, .int n] st = .ok (.bl true) st := by
      rw [is_lot_eq (by simp [-List.map_map]) (fun xs e => by simp only [tI, D.tup.injEq] at e; rw [← e]; exact toLine (by simp [-List.map_map]; omega)), lot l hl]
    simp [-List.map_map, e3]
    omega
@[simp] theorem check_message_eq {n : Nat} {L : List (List Int)} {m : List Int} {st : Store} (h : Gok n L) (hm : Mok n m) : F_check_message [gD n L, tI m] st = .ok .non st := by
  have h8 := h.n8
  simp [-List.map_map, F_check_message, M_check_message, check_guards_eq h]
  simp [-List.map_map, gD]
  rw [is_message_eq (by simp [-List.map_map]) (by omega), hm.msg]
  simp [-List.map_map]
/-! ### odd lots -/
def gt (m : List Int) (x : Int) : Int := m.getD x.toNat 0
def par (m : List Int) (l : List Int) : Int := (l.map (gt m)).sum % 2
def oddL (L : List (List Int)) (m : List Int) : List Int := (L.zipIdx.filter fun p => par m p.1 == 1).map fun p => (p.2 : Int)
theorem pick_eq {vs : List Nat} {i j : Nat} {m l : List Int} {env : En} {st : Store} (hij : i ≠ j) (hi : i ∉ vs) (e0 : env i = some (false, tI m)) {it : Lx} (hit : it env st = .ok (l.map D.int) st) (hl : l.length ≤ 100) (h : ∀ x ∈ l, 0 ≤ x ∧ x < m.length) :
    eLc vs it (gNm j) tYesS (eBin ixD (eVar i) (eVar j)) env st = .ok (.lst ((l.map (gt m)).map .int)) st := by
  rw [eLc_map (st1 := st) l D.int (fun x => .int (gt m x)) hit (toLine (by omega))]
  · simp [-List.map_map, List.map_map, Function.comp_def]
  · simp [-List.map_map]
  · intro x hx
    refine ⟨_, rfl, ?_⟩
    have hx' := h x hx
    have : atI (m.map D.int) x = some (.int (gt m x)) := by
      rw [atI_ok (.int 0) (by simpa [-List.map_map] using hx')]
      simp [-List.map_map, gt, List.getD]
    simp [-List.map_map, hij, hi, e0, tI]
    simp [-List.map_map, this]
theorem odd_of_eq {n : Nat} {L : List (List Int)} {m : List Int} {st : Store} (hf : L.length ≤ 100) (h : ∀ l ∈ L, l.length ≤ 8 ∧ ∀ x ∈ l, 0 ≤ x ∧ x < m.length) : F_odd_of [gD n L, tI m] st = .ok (tI (oddL L m)) st := by
  simp [-List.map_map, F_odd_of, M_odd_of, gD]
  rw [eLc_pure (st1 := st) L.zipIdx (fun p => .tup [.int (p.2 : Nat), tI p.1]) (fun p => par m p.1 == 1) (fun p => .int (p.2 : Nat))]
  · simp [-List.map_map, tI, oddL, List.map_map, Function.comp_def]
  · rw [iEnum_eq (x := .tup (L.map tI)) (xs := L.map tI)]
    · simp [-List.map_map]
    · simp [-List.map_map]
    · rfl
  · exact toLine (by simp [-List.map_map]; omega)
  · intro p hp
    have hp' := h p.1 (by have := List.mem_zipIdx hp; simp [-List.map_map] at this; rw [this.2]; simp [-List.map_map])
    refine ⟨_, rfl, ?_, by simp [-List.map_map]⟩
    simp [-List.map_map]
    rw [pick_eq (i := 1) (j := 5) (m := m) (l := p.1) (by simp [-List.map_map]) (by simp [-List.map_map]) (by simp [-List.map_map]) (by simp [-List.map_map, tI]) (by omega) hp'.2]
    simp [-List.map_map, modD_int, par]
    try rfl
theorem law_odd_eq {n : Nat} {L : List (List Int)} {m : List Int} {st : Store} (hf : L.length ≤ 100) (h : ∀ l ∈ L, l.length ≤ 8 ∧ ∀ x ∈ l, 0 ≤ x ∧ x < m.length) : F__law_odd [gD n L, tI m] st = .ok (.lst ((oddL L m).map .int)) st := by
  simp [-List.map_map, F__law_odd, M__law_odd, gD]
  rw [eLc_pure (st1 := st) L.zipIdx (fun p => .tup [.int (p.2 : Nat), tI p.1]) (fun p => par m p.1 == 1) (fun p => .int (p.2 : Nat))]
  · simp [-List.map_map, tI, oddL, List.map_map, Function.comp_def]
  · rw [iEnum_eq (x := .tup (L.map tI)) (xs := L.map tI)]
    · simp [-List.map_map]
    · simp [-List.map_map]
    · rfl
  · exact toLine (by simp [-List.map_map]; omega)
  · intro p hp
    have hp' := h p.1 (by have := List.mem_zipIdx hp; simp [-List.map_map] at this; rw [this.2]; simp [-List.map_map])
    refine ⟨_, rfl, ?_, by simp [-List.map_map]⟩
    simp [-List.map_map]
    rw [pick_eq (i := 1) (j := 5) (m := m) (l := p.1) (by simp [-List.map_map]) (by simp [-List.map_map]) (by simp [-List.map_map]) (by simp [-List.map_map, tI]) (by omega) hp'.2]
    simp [-List.map_map, modD_int, par]
    try rfl
end Lw88


set_option Elab.async false
set_option linter.all false
set_option maxRecDepth 100000
set_option maxHeartbeats 2000000
namespace Lw88
open PySem PySem.Spec L2 Sm
def grow (m : List Int) : List (List Int) := [m ++ [0], m ++ [1]]
def rows : Nat → List (List Int)
  | 0 => [[]]
  | n + 1 => (rows n).flatMap grow
theorem rows_len : ∀ n, (rows n).length = 2 ^ n
  | 0 => rfl
  | n + 1 => by
    have : ∀ l : List (List Int), (l.flatMap grow).length = 2 * l.length := fun l => by
      induction l with
      | nil => rfl
      | cons a l ih => rw [List.flatMap_cons, List.length_append, ih, List.length_cons]; simp [-List.map_map, grow]; omega
    rw [rows, this, rows_len n, Nat.pow_succ]; omega
theorem rows_le {n : Nat} (h : n ≤ 8) : (rows n).length ≤ 256 := by
  rw [rows_len]
  exact Nat.pow_le_pow_right (n := 2) (by decide) h
theorem mem_rows : ∀ {n : Nat} {m : List Int}, m ∈ rows n ↔ Mok n m
  | 0, m => by
    simp only [rows, List.mem_singleton]
    constructor
    · rintro rfl; exact ⟨rfl, fun x h => by cases h⟩
    · rintro ⟨h, _⟩; exact List.eq_nil_of_length_eq_zero h
  | n + 1, m => by
    simp only [rows, List.mem_flatMap, grow, List.mem_cons, List.not_mem_nil, or_false]
    constructor
    · rintro ⟨a, ha, h⟩
      have ha := mem_rows.mp ha
      rcases h with rfl | rfl
      · refine ⟨by simp [-List.map_map, ha.len], fun x hx => ?_⟩
        rcases List.mem_append.mp hx with z | z
        · exact ha.bit x z
        · simp [-List.map_map] at z; exact .inl z
      · refine ⟨by simp [-List.map_map, ha.len], fun x hx => ?_⟩
        rcases List.mem_append.mp hx with z | z
        · exact ha.bit x z
        · simp [-List.map_map] at z; exact .inr z
    · rintro ⟨hl, hb⟩
      have hne : m ≠ [] := fun z => by rw [z] at hl; simp [-List.map_map] at hl
      refine ⟨m.dropLast, mem_rows.mpr ⟨by simp [-List.map_map, hl], fun x hx => hb x ((List.dropLast_sublist m).subset hx)⟩, ?_⟩
      have e := List.dropLast_concat_getLast hne
      rcases hb _ (List.getLast_mem hne) with z | z
      · left; rw [z] at e; exact e.symm
      · right; rw [z] at e; exact e.symm
def inner : Sx := sExt 3 (eLst (lCons (eBin (pur addA) (eVar 4) (eTup (lCons (eC (.int 0)) lNil))) (lCons (eBin (pur addA) (eVar 4) (eTup (lCons (eC (.int 1)) lNil))) lNil)))
theorem addA_tup {a b : List D} (h : a.length + b.length ≤ 100000) : addA (.tup a) (.tup b) = some (.tup (a ++ b)) := by
  have : a.length + b.length ≤ line := toLine h
  simp [-List.map_map, addA, addD, this]
theorem addA_lst {a b : List D} (h : a.length + b.length ≤ 100000) : addA (.lst a) (.lst b) = some (.lst (a ++ b)) := by
  have : a.length + b.length ≤ line := toLine h
  simp [-List.map_map, addA, addD, addL, this]
theorem inner_step {e : En} {st : Store} {acc : List (List Int)} {m : List Int} (h3 : e 3 = some (true, .lst (acc.map tI))) (h4 : e 4 = some (false, tI m)) (hl : acc.length ≤ 50000) (hm : m.length ≤ 100) :
    inner e st = .ok (.nx (e.put 3 true (.lst ((acc ++ grow m).map tI)))) st := by
  have a0 : addA (tI m) (.tup [.int 0]) = some (tI (m ++ [0])) := by rw [tI, addA_tup (by simp [-List.map_map]; omega)]; simp [-List.map_map, tI]
  have a1 : addA (tI m) (.tup [.int 1]) = some (tI (m ++ [1])) := by rw [tI, addA_tup (by simp [-List.map_map]; omega)]; simp [-List.map_map, tI]
  have hz : acc.length + 2 ≤ line := toLine (by omega)
  simp [-List.map_map, inner, sExt, withOwn, ownL, h3, h4, a0, a1, extL, hz, grow]
def outer : Sx := sSeq (sOwn 3 (eLst lNil)) (sSeq (sFor (iSeq (eVar 1)) (gNm 4) inner) (sFrz 3 (sSet 1 (eVar 3))))
theorem M_all_eq : M_all_messages = sSeq (sSet 1 (eLst (lCons (eTup lNil) lNil))) (sSeq (sFor (iRng1S (eVar 0)) (gNm 2) outer) (sRet (eVar 1))) := rfl
theorem all_messages_eq {n : Nat} {st : Store} (h : n ≤ 8) : F_all_messages [.int n] st = .ok (.lst ((rows n).map tI)) st := by
  obtain ⟨e', s', h1, h2, h3⟩ := sFor_run (st := st) (st1 := st) (env := (env0 [.int n]).put 1 false (.lst [.tup []])) (it := iRng1S (eVar 0)) (g := gNm 2)
    (b := outer)
    (I := fun i e s => s = st ∧ e 1 = some (false, .lst ((rows i).map tI))) ((List.range n).map fun i => .int (i : Nat))
    (iRng_eq (n := n) (by simp [-List.map_map]) (by omega)) ⟨rfl, by simp [-List.map_map, rows, tI]⟩ (by
      rintro i d e s hd ⟨rfl, he⟩
      have hi : i < n := by
        have := (List.getElem?_eq_some_iff.mp hd).1
        simpa [-List.map_map] using this
      have hle : (rows i).length ≤ 256 := rows_le (by omega)
      obtain ⟨e2, s2, j1, j2, j3⟩ := sFor_run (st := s) (st1 := s) (env := ((e.put 2 false d).put 3 true (.lst []))) (it := iSeq (eVar 1)) (g := gNm 4) (b := inner)
        (I := fun j e s' => s' = s ∧ e 3 = some (true, .lst ((((rows i).take j).flatMap grow).map tI))) ((rows i).map tI) (by simp [-List.map_map, he]) ⟨rfl, by simp [-List.map_map]⟩ (by
          rintro j d e s' hd ⟨rfl, he⟩
          have hj : j < (rows i).length := by
            have := (List.getElem?_eq_some_iff.mp hd).1
            simpa [-List.map_map] using this
          have hd' : d = tI (rows i)[j] := by
            rw [List.getElem?_map, List.getElem?_eq_getElem hj] at hd
            simpa [-List.map_map] using hd.symm
          have hmm := mem_rows.mp (List.getElem_mem hj)
          refine ⟨_, _, _, rfl, inner_step (m := (rows i)[j]) (by simpa [-List.map_map] using he) (by simp [-List.map_map, hd']) ?_ (by rw [hmm.len]; omega), rfl, ?_⟩
          · have : ∀ l : List (List Int), (l.flatMap grow).length = 2 * l.length := fun l => by
              induction l with
              | nil => rfl
              | cons a l ih => rw [List.flatMap_cons, List.length_append, ih, List.length_cons]; simp [-List.map_map, grow]; omega
            rw [this, List.length_take]
            omega
          · rw [List.take_succ_eq_append_getElem hj, List.flatMap_append]
            simp [-List.map_map])
      subst j2
      rw [List.length_map, List.take_length] at j3
      refine ⟨_, (e2.frz 3).put 1 false (.lst ((rows (i + 1)).map tI)), s2, rfl, ?_, rfl, by simp [-List.map_map]⟩
      simp [-List.map_map, outer]
      rw [j1]
      simp [-List.map_map, sFrz, En.frz, j3, rows])
  subst h2
  refine callS_rt ?_
  rw [M_all_eq, sSeq_eq (e1 := (env0 [.int n]).put 1 false (.lst [.tup []])) (st1 := s') (by simp [-List.map_map]), sSeq_eq h1]
  refine sRet_eq (eVar_eq ?_)
  simpa [-List.map_map] using h3
end Lw88


set_option Elab.async false
set_option linter.all false
set_option maxRecDepth 100000
set_option maxHeartbeats 2000000
namespace Lw88
open PySem PySem.Spec L2 Sm
theorem Gok.lots {n : Nat} {L : List (List Int)} {m : List Int} (h : Gok n L) (hm : Mok n m) : ∀ l ∈ L, l.length ≤ 8 ∧ ∀ x ∈ l, 0 ≤ x ∧ x < m.length := fun l hl =>
  ⟨(h.ne l hl).2, fun x hx => by rw [hm.len]; exact h.inn l hl x hx⟩
def good (L : List (List Int)) (m : List Int) : Bool := (oddL L m).length == 0
def rightL (n : Nat) (L : List (List Int)) : List (List Int) := (rows n).filter (good L)
theorem rightL_mem {n : Nat} {L : List (List Int)} {m : List Int} (h : m ∈ rightL n L) : Mok n m := mem_rows.mp (List.mem_filter.mp h).1
theorem rightL_le {n : Nat} {L : List (List Int)} (h : n ≤ 8) : (rightL n L).length ≤ 256 := Nat.le_trans (List.length_filter_le _ _) (rows_le h)
theorem right_ones_eq {n : Nat} {L : List (List Int)} {st : Store} (h : Gok n L) : F_right_ones [gD n L] st = .ok (.lst ((rightL n L).map tI)) st := by
  refine callS_rt (sRet_eq ?_)
  rw [eLc_pure (st1 := st) (rows n) tI (good L) tI]
  · rfl
  · refine iSeq_eq (x := .lst ((rows n).map tI)) ?_ rfl
    rw [fn1 (st1 := st) (x := .int n) (by simp [-List.map_map]), all_messages_eq h.n8]
  · exact toLine (Nat.le_trans (rows_le h.n8) (by decide))
  · intro m hm
    refine ⟨_, rfl, ?_, fun _ => by simp [-List.map_map]⟩
    have e := odd_of_eq (n := n) (L := L) (st := st) (by have := h.few; omega) (h.lots (mem_rows.mp hm))
    refine tV_eq (eBin_eq (st1 := st) (y := .int 0) (g1_eq (y := .int ((oddL L m).length : Nat)) (st1 := st) (Eq.trans (fn2 (eVar_eq (d := gD n L) (by simp [-List.map_map])) (eVar_eq (d := tI m) (by simp [-List.map_map]))) e) (by simp [-List.map_map])) rfl ?_)
    rw [eqD_int, good]
    congr 2
    rw [Bool.eq_iff_iff]
    simp only [decide_eq_true_eq, beq_iff_eq]
    omega
def off (a b : List Int) : Int := (((a.zip b).filter fun p => !decide (p.1 = p.2)).length : Nat)
theorem off_comm (a b : List Int) : off a b = off b a := by
  unfold off
  congr 1
  induction a generalizing b with
  | nil => simp [-List.map_map]
  | cons x a ih =>
    cases b with
    | nil => simp [-List.map_map]
    | cons y b =>
      have := ih b
      by_cases z : x = y
      · subst z; simp only [List.zip_cons_cons]; rw [List.filter_cons_of_neg (by simp [-List.map_map]), List.filter_cons_of_neg (by simp [-List.map_map])]; exact this
      · have z' : ¬ y = x := fun q => z q.symm
        simp only [List.zip_cons_cons]; rw [List.filter_cons_of_pos (by simpa [-List.map_map] using z), List.filter_cons_of_pos (by simpa [-List.map_map] using z'), List.length_cons, List.length_cons, this]
theorem off_by_eq {a b : List Int} {st : Store} (ha : a.length ≤ 100) : F_off_by [tI a, tI b] st = .ok (.int (off a b)) st := by
  refine callS_rt (sRet_eq ?_)
  refine g1_eq (x := .lst (((a.zip b).filter fun p => !decide (p.1 = p.2)).map fun _ => .int 1)) ?_ (by simp [-List.map_map, off])
  rw [eLc_pure (st1 := st) (a.zip b) (fun p => .tup [.int p.1, .int p.2]) (fun p => !decide (p.1 = p.2)) (fun _ => .int 1)]
  · rw [iZip_eq (x := tI a) (y := tI b) (xs := a.map .int) (ys := b.map .int) (by simp [-List.map_map]) (by simp [-List.map_map]) rfl rfl, zipD_map]
  · refine toLine ?_
    rw [List.length_zip]
    omega
  · exact fun p hp => ⟨_, rfl, by simp [-List.map_map], fun _ => by simp [-List.map_map]⟩
theorem law_off_eq {a b : List Int} {st : Store} (ha : a.length ≤ 100) : F__law_off [tI a, tI b] st = .ok (.int (off a b)) st := off_by_eq ha
/-- the least off, those that near, what is told -/
def least (n : Nat) (L : List (List Int)) (m : List Int) : Int := match rightL n L with
  | [] => 0
  | x :: xs => mn (off x m) (xs.map fun o => off o m)
def near (n : Nat) (L : List (List Int)) (m : List Int) : List (List Int) := (rightL n L).filter fun o => decide (off o m = least n L m)
def toldD (n : Nat) (L : List (List Int)) (m : List Int) : D := if (near n L m).length = 1 then .tup [.str "mended", tI ((near n L m).headD [])] else .tup [.str "doubt", .int (least n L m), .int ((near n L m).length : Nat)]
theorem zero_right (n : Nat) : ∃ xs, rows n = List.replicate n 0 :: xs ∧ ∀ o ∈ xs, o ≠ List.replicate n 0 := by
  induction n with
  | zero => exact ⟨[], rfl, fun o h => by cases h⟩
  | succ n ih =>
    obtain ⟨xs, h, hx⟩ := ih
    refine ⟨(List.replicate n 0 ++ [1]) :: xs.flatMap grow, ?_, fun o ho => ?_⟩
    · rw [rows, h, List.flatMap_cons]
      simp [-List.map_map, grow, List.replicate_succ']
    · rw [List.replicate_succ']
      rcases List.mem_cons.mp ho with z | z
      · rw [z]; simp [-List.map_map]
      · obtain ⟨m, hm, hg⟩ := List.mem_flatMap.mp z
        have := hx m hm
        simp only [grow, List.mem_cons, List.not_mem_nil, or_false] at hg
        rcases hg with g | g <;> rw [g] <;> simp [-List.map_map, this]
theorem gt_zero (n : Nat) (x : Int) : gt (List.replicate n 0) x = 0 := by
  unfold gt
  rw [List.getD_eq_getElem?_getD, List.getElem?_replicate]
  split <;> rfl
theorem good_zero (n : Nat) (L : List (List Int)) : good L (List.replicate n 0) = true := by
  have hp : ∀ l, par (List.replicate n 0) l = 0 := fun l => by
    unfold par
    have : l.map (gt (List.replicate n 0)) = l.map fun _ => 0 := List.map_congr_left fun x _ => gt_zero n x
    rw [this]
    have : ∀ l : List Int, (l.map fun _ => (0 : Int)).sum = 0 := fun l => by
      induction l with
      | nil => rfl
      | cons a l ih => simpa [-List.map_map] using ih
    rw [this]; rfl
  unfold good oddL
  rw [List.filter_eq_nil_iff.mpr]
  · rfl
  · intro p _
    rw [hp]
    decide
theorem rightL_cons (n : Nat) (L : List (List Int)) : ∃ xs, rightL n L = List.replicate n 0 :: xs ∧ ∀ o ∈ xs, Mok n o ∧ o ≠ List.replicate n 0 := by
  obtain ⟨xs, h, hx⟩ := zero_right n
  refine ⟨xs.filter (good L), ?_, fun o ho => ?_⟩
  · unfold rightL
    rw [h, List.filter_cons_of_pos (good_zero n L)]
  · have := (List.mem_filter.mp ho).1
    exact ⟨mem_rows.mp (by rw [h]; exact List.mem_cons_of_mem _ this), hx o this⟩
theorem near_one {n : Nat} {L : List (List Int)} {m : List Int} (h : (near n L m).length = 1) : ∃ o, near n L m = [o] ∧ o ∈ rightL n L := by
  cases e : near n L m with
  | nil => rw [e] at h; simp [-List.map_map] at h
  | cons o r =>
    rw [e] at h
    have : r = [] := List.eq_nil_of_length_eq_zero (by simpa [-List.map_map] using h)
    subst this
    exact ⟨o, rfl, (List.mem_filter.mp (show o ∈ near n L m by rw [e]; simp [-List.map_map])).1⟩
theorem told_eq {n : Nat} {L : List (List Int)} {m : List Int} {st : Store} (h : Gok n L) (hm : Mok n m) : F_told [gD n L, tI m] st = .ok (toldD n L m) st := by
  have h8 := h.n8
  have hle := rightL_le (L := L) h8
  have hmem : ∀ o ∈ rightL n L, o.length ≤ 100 := fun o ho => by rw [(rightL_mem ho).len]; omega
  refine callS_rt ?_
  unfold M_told
  rw [sSeq_eq (e1 := (env0 [gD n L, tI m]).put 2 false (.lst ((rightL n L).map fun o => kI (off o m) o))) (st1 := st) (sSet_eq (by
    rw [eLc_map (st1 := st) (rightL n L) tI (fun o => kI (off o m) o)]
    · exact iSeq_eq (x := .lst ((rightL n L).map tI)) (by rw [fn1 (st1 := st) (x := gD n L) (by simp [-List.map_map]), right_ones_eq h]) rfl
    · exact toLine (by omega)
    · exact fun e => rfl
    · intro o ho
      refine ⟨_, rfl, ?_⟩
      have e := Eq.trans (fn2 (F := F_off_by) (st := st) (st1 := st) (st2 := st) (a := eVar 6) (b := eVar 1) (env := ((env0 [gD n L, tI m]).clr [5, 6]).put 6 false (tI o)) (x := tI o) (y := tI m) (by simp [-List.map_map]) (by simp [-List.map_map])) (off_by_eq (hmem o ho))
      simp only [eTup, lCons, lNil, bnd_ok', e]
      simp [-List.map_map, kI]))]
  have e3 : least n L m = least n L m := rfl
  obtain ⟨xs, hc, _⟩ := rightL_cons n L
  rw [sSeq_eq (e1 := ((env0 [gD n L, tI m]).put 2 false (.lst ((rightL n L).map fun o => kI (off o m) o))).put 3 false (.int (least n L m))) (st1 := st) (sSet_eq (by
    obtain ⟨o, ho⟩ := minD_kI (fun o => off o m) id (List.replicate n 0) xs
    have e := g1_eq (f := minD') (st := st) (st1 := st) (a := eVar 2) (env := (env0 [gD n L, tI m]).put 2 false (.lst ((rightL n L).map fun o => kI (off o m) o))) (x := .lst ((rightL n L).map fun o => kI (off o m) o)) (by simp [-List.map_map]) (by rw [hc]; exact ho)
    simp only [eBin, bnd_ok', e]
    simp [-List.map_map, kI, least, hc]))]
  rw [sSeq_eq (e1 := (((env0 [gD n L, tI m]).put 2 false (.lst ((rightL n L).map fun o => kI (off o m) o))).put 3 false (.int (least n L m))).put 4 false (.lst ((near n L m).map tI))) (st1 := st) (sSet_eq (by
    rw [eLc_pure (st1 := st) (rightL n L) (fun o => kI (off o m) o) (fun o => decide (off o m = least n L m)) tI]
    · rfl
    · simp [-List.map_map]
    · exact toLine (by omega)
    · exact fun o ho => ⟨_, rfl, by simp [-List.map_map, kI], fun _ => by simp [-List.map_map, kI]⟩))]
  refine sRet_eq ?_
  rw [eIf_eq (c := decide ((near n L m).length = 1)) (st1 := st) (tV_eq (eBin_eq (st1 := st) (y := .int 1) (g1_eq (st1 := st) (y := .int ((near n L m).length : Nat)) (eVar_eq (d := .lst ((near n L m).map tI)) (by simp [-List.map_map])) (by simp [-List.map_map])) rfl (by rw [eqD_int]; congr 2; rw [Bool.eq_iff_iff]; simp only [decide_eq_true_eq]; omega)))]
  unfold toldD
  by_cases c : (near n L m).length = 1
  · obtain ⟨o, ho, _⟩ := near_one c
    simp [-List.map_map, ho]
  · simp [-List.map_map, c]
end Lw88


set_option Elab.async false
set_option linter.all false
set_option maxRecDepth 100000
set_option maxHeartbeats 2000000
namespace Lw88
open PySem PySem.Spec L2 Sm
def firstD (L : List (List Int)) (m : List Int) : D := if 0 < (oddL L m).length then .tup [.str "odd", tI (oddL L m)] else .tup [.str "right"]
theorem chk {n : Nat} {L : List (List Int)} {m : List Int} {st : Store} {env : En} (h : Gok n L) (hm : Mok n m) (e0 : env 0 = some (false, gD n L)) (e1 : env 1 = some (false, tI m)) : sDrop (eFn F_check_message (lCons (eVar 0) (lCons (eVar 1) lNil))) env st = .ok (.nx env) st :=
  sDrop_eq (Eq.trans (fn2 (eVar_eq e0) (eVar_eq e1)) (check_message_eq h hm))
theorem chg {n : Nat} {L : List (List Int)} {st : Store} {env : En} (h : Gok n L) (e0 : env 0 = some (false, gD n L)) : sDrop (eFn F_check_guards (lCons (eVar 0) lNil)) env st = .ok (.nx env) st :=
  sDrop_eq (Eq.trans (fn1 (eVar_eq e0)) (check_guards_eq h))
theorem odd_ok {n : Nat} {L : List (List Int)} {m : List Int} {st : Store} (h : Gok n L) (hm : Mok n m) : F_odd_of [gD n L, tI m] st = .ok (tI (oddL L m)) st := odd_of_eq (by have := h.few; omega) (h.lots hm)
theorem lodd_ok {n : Nat} {L : List (List Int)} {m : List Int} {st : Store} (h : Gok n L) (hm : Mok n m) : F__law_odd [gD n L, tI m] st = .ok (.lst ((oddL L m).map .int)) st := law_odd_eq (by have := h.few; omega) (h.lots hm)
theorem right_or_odd_eq {n : Nat} {L : List (List Int)} {m : List Int} {st : Store} (h : Gok n L) (hm : Mok n m) : F_right_or_odd [gD n L, tI m] st = .ok (firstD L m) st := by
  refine callS_rt ?_
  unfold M_right_or_odd
  rw [sSeq_eq (chk h hm (by simp [-List.map_map]) (by simp [-List.map_map])), sSeq_eq (e1 := (env0 [gD n L, tI m]).put 2 false (tI (oddL L m))) (st1 := st) (sSet_eq (Eq.trans (fn2 (eVar_eq (d := gD n L) (by simp [-List.map_map])) (eVar_eq (d := tI m) (by simp [-List.map_map]))) (odd_ok h hm)))]
  unfold firstD
  by_cases c : 0 < (oddL L m).length <;> simp [-List.map_map, c]
theorem mended_or_doubt_eq {n : Nat} {L : List (List Int)} {m : List Int} {st : Store} (h : Gok n L) (hm : Mok n m) : F_mended_or_doubt [gD n L, tI m] st = .ok (toldD n L m) st := by
  refine callS_rt ?_
  unfold M_mended_or_doubt
  rw [sSeq_eq (chk h hm (by simp [-List.map_map]) (by simp [-List.map_map]))]
  exact sRet_eq (Eq.trans (fn2 (eVar_eq (d := gD n L) (by simp [-List.map_map])) (eVar_eq (d := tI m) (by simp [-List.map_map]))) (told_eq h hm))
theorem right_count_eq {n : Nat} {L : List (List Int)} {st : Store} (h : Gok n L) : F_right_count [gD n L] st = .ok (.int ((rightL n L).length : Nat)) st := by
  refine callS_rt ?_
  unfold M_right_count
  rw [sSeq_eq (chg h (by simp [-List.map_map]))]
  exact sRet_eq (g1_eq (Eq.trans (fn1 (eVar_eq (d := gD n L) (by simp [-List.map_map]))) (right_ones_eq h)) (by simp [-List.map_map]))
def apartD (n : Nat) (L : List (List Int)) : D := match (rightL n L).tail with
  | [] => .non
  | x :: xs => .int (mn x.sum (xs.map List.sum))
theorem any_ne {n : Nat} {m : List Int} (h : Mok n m) : m.any (· != 0) = true ↔ m ≠ List.replicate n 0 := by
  constructor
  · rintro h rfl
    simp [-List.map_map] at h
  · intro h2
    apply Decidable.byContradiction
    intro h3
    apply h2
    rw [List.eq_replicate_iff]
    refine ⟨h.len, fun x hx => ?_⟩
    have : m.any (· != 0) = false := by simpa [-List.map_map] using h3
    rw [List.any_eq_false] at this
    simpa [-List.map_map] using this x hx
theorem apart_eq {n : Nat} {L : List (List Int)} {st : Store} (h : Gok n L) : F_apart [gD n L] st = .ok (apartD n L) st := by
  obtain ⟨xs, hc, hx⟩ := rightL_cons n L
  have hf : (rightL n L).filter (fun m => m.any (· != 0)) = xs := by
    rw [hc, List.filter_cons_of_neg (by simp [-List.map_map]), List.filter_eq_self.mpr fun o ho => (any_ne (hx o ho).1).mpr (hx o ho).2]
  refine callS_rt ?_
  unfold M_apart
  rw [sSeq_eq (e1 := (env0 [gD n L]).put 1 false (.lst ((xs.map List.sum).map .int))) (st1 := st) (sSet_eq (by
    rw [eLc_pure (st1 := st) (rightL n L) tI (fun m => m.any (· != 0)) (fun m => .int m.sum)]
    · rw [hf]; simp [-List.map_map, List.map_map, Function.comp_def]
    · exact iSeq_eq (x := .lst ((rightL n L).map tI)) (Eq.trans (fn1 (eVar_eq (d := gD n L) (by simp [-List.map_map]))) (right_ones_eq h)) rfl
    · exact toLine (Nat.le_trans (rightL_le h.n8) (by decide))
    · intro m hm
      have ea : anyD (tI m) = some (.bl (m.any (· != 0))) := anyD_ints m
      refine ⟨_, rfl, tV_eq (g1_eq (eVar_eq (d := tI m) (by simp [-List.map_map])) ea), fun _ => g1_eq (eVar_eq (d := tI m) (by simp [-List.map_map])) (by simp [-List.map_map])⟩))]
  unfold apartD
  rw [hc, List.tail_cons]
  refine sRet_eq ?_
  cases xs with
  | nil => simp [-List.map_map]
  | cons x xs =>
    have : (0 : Int) < (xs.length : Int) + 1 := by omega
    have e := minD_ints x.sum (xs.map List.sum)
    simp only [List.map_cons] at e
    simp [-List.map_map, this, e]
theorem least_apart_eq {n : Nat} {L : List (List Int)} {st : Store} (h : Gok n L) : F_least_apart [gD n L] st = .ok (apartD n L) st := by
  refine callS_rt ?_
  unfold M_least_apart
  rw [sSeq_eq (chg h (by simp [-List.map_map]))]
  exact sRet_eq (Eq.trans (fn1 (eVar_eq (d := gD n L) (by simp [-List.map_map]))) (apart_eq h))
theorem sum_le {m : List Int} (h : ∀ x ∈ m, x = 0 ∨ x = 1) : m.sum ≤ m.length := by
  induction m with
  | nil => simp [-List.map_map]
  | cons x m ih =>
    have h1 := h x List.mem_cons_self
    have h2 := ih fun y hy => h y (List.mem_cons_of_mem _ hy)
    simp only [List.sum_cons, List.length_cons]
    omega
/-- the mended ones -/
def mendsB (n : Nat) (L : List (List Int)) (k : Int) : Bool := match apartD n L with
  | .int a => decide (2 * k < a)
  | _ => true
theorem apart_cases {n : Nat} {L : List (List Int)} (h : Gok n L) : apartD n L = .non ∨ ∃ a, apartD n L = .int a ∧ a ≤ n := by
  unfold apartD
  obtain ⟨xs, hc, hx⟩ := rightL_cons n L
  rw [hc, List.tail_cons]
  cases xs with
  | nil => exact .inl rfl
  | cons x xs =>
    refine .inr ⟨_, rfl, ?_⟩
    have h1 := (mn_le (xs.map List.sum) x.sum).1
    have hm := (hx x List.mem_cons_self).1
    have h2 := sum_le hm.bit
    rw [hm.len] at h2
    omega
theorem mends_eq {n : Nat} {L : List (List Int)} {k : Int} {st : Store} (h : Gok n L) (hk : 0 ≤ k ∧ k ≤ 8) : F_mends [gD n L, .int k] st = .ok (.bl (mendsB n L k)) st := by
  refine callS_rt ?_
  unfold M_mends
  have e : inR 0 8 (.int k) = true := decide_eq_true hk
  rw [sSeq_eq (chg h (by simp [-List.map_map])), sSeq_eq (sIf_no (tNot_eq (b := true) (tV_eq (b := true) (Eq.trans (fn3 (eVar_eq (d := .int k) (by simp [-List.map_map])) (rfl : eC (.int 0) _ st = .ok (.int 0) st) (rfl : eC (.int 8) _ st = .ok (.int 8) st)) (by rw [is_within_eq (by simp [-List.map_map]), e]))))),
    sSeq_eq (e1 := (env0 [gD n L, .int k]).put 2 false (apartD n L)) (st1 := st) (sSet_eq (Eq.trans (fn1 (eVar_eq (d := gD n L) (by simp [-List.map_map]))) (apart_eq h)))]
  refine sRet_eq ?_
  unfold mendsB
  rcases apart_cases h with z | ⟨a, z, ha⟩
  · rw [z]
    simp [-List.map_map, isOp, isD']
  · rw [z]
    simp [-List.map_map, isOp, isD', mulA_l]
end Lw88


set_option Elab.async false
set_option linter.all false
set_option maxRecDepth 100000
set_option maxHeartbeats 2000000
namespace Lw88
open PySem PySem.Spec L2 Sm
/-! ### filled -/
def oD : Option Int → D
  | none => .non
  | some i => .int i
def hD (hs : List (Option Int)) : D := .tup (hs.map oD)
def fit1 (p : Option Int × Int) : Bool := match p.1 with
  | none => true
  | some b => decide (b = p.2)
def fits (hs : List (Option Int)) (o : List Int) : Bool := (hs.zip o).all fit1
theorem fits_swap : ∀ (hs : List (Option Int)) (o : List Int), ((o.zip hs).all fun p => fit1 (p.2, p.1)) = fits hs o
  | [], o => by simp [-List.map_map, fits]
  | h :: hs, [] => by simp [-List.map_map, fits]
  | h :: hs, x :: o => by
    have := fits_swap hs o
    unfold fits at this ⊢
    rw [List.zip_cons_cons, List.zip_cons_cons, List.all_cons, List.all_cons, this]
structure Hk (n : Nat) (hs : List (Option Int)) : Prop where
  len : hs.length = n
  bit : ∀ o ∈ hs, ∀ x, o = some x → x = 0 ∨ x = 1
  some1 : 1 ≤ hs.countP fun o => o.isNone
  few : (hs.countP fun o => o.isNone) ≤ 4
theorem dat_oD {n : Nat} {o : Option Int} : dat n (oD o) = true := by cases o <;> simp [-List.map_map, oD]
theorem dat_hD {hs : List (Option Int)} : dat 60 (hD hs) = true := by simp [-List.map_map, hD, dat_oD]
theorem shp_oD {n : Nat} {o : Option Int} : shp n (oD o) = true := by cases o <;> simp [-List.map_map, oD]
theorem count_non {hs : List (Option Int)} : countD (hD hs) .non = some (.int (hs.countP fun o => o.isNone : Nat)) := by
  unfold countD hD
  show (if (shpL 60 (hs.map oD) && shp 60 .non) = true then some (D.int ((hs.map oD).countP fun y => D.eqv y .non : Nat)) else none) = _
  rw [if_pos (by rw [shpL_all]; simp [-List.map_map, shp_oD]), List.countP_map]
  congr 4
  funext o
  cases o with
  | none => simp [-List.map_map, oD]
  | some x => simp [-List.map_map, oD]
theorem filled_eq {n : Nat} {L : List (List Int)} {hs : List (Option Int)} {st : Store} (h : Gok n L) (hh : Hk n hs) : F_filled [gD n L, hD hs] st = .ok (.tup (((rightL n L).filter (fits hs)).map tI)) st := by
  have h8 := h.n8
  have hl := hh.len
  have hlen : hs.length ≤ line := toLine (by omega)
  refine callS_rt ?_
  unfold M_filled
  rw [sSeq_eq (chg h (by simp [-List.map_map])), sSeq_eq (e1 := (env0 [gD n L, hD hs]).put 2 false (.int n)) (st1 := st) (sSet_eq (by simp [-List.map_map]))]
  have t1 : F_is_tuple [hD hs, .int n, .int n] st = .ok (.bl true) st := by
    rw [is_tuple_eq dat_hD]
    simp [-List.map_map, hD, hl]
  rw [sSeq_eq (sIf_no (Eq.trans (tOr_no (st1 := st) (tNot_eq (b := true) (tV_eq (Eq.trans (fn3 (eVar_eq (d := hD hs) (by simp [-List.map_map])) (eVar_eq (d := .int n) (by simp [-List.map_map])) (eVar_eq (d := .int n) (by simp [-List.map_map]))) t1)))) (tNot_eq (b := true) (tV_eq (g1_eq (x := .lst (hs.map fun _ => .bl true)) (by
    rw [eLc_map (st1 := st) hs oD (fun _ => .bl true)]
    · exact iSeq_eq (x := hD hs) (by simp [-List.map_map]) rfl
    · exact hlen
    · exact fun e => rfl
    · intro o ho
      refine ⟨_, rfl, ?_⟩
      cases o with
      | none => simp [-List.map_map, oD, isOp, isD']
      | some x =>
        have e : inR 0 1 (.int x) = true := decide_eq_true (by rcases hh.bit _ ho x rfl with z | z <;> omega)
        simp [-List.map_map, oD, isOp, isD', e]) (by rw [allD_p hs (fun _ => true)]; simp [-List.map_map]))))))]
  have hc1 := hh.some1
  have hc4 := hh.few
  rw [sSeq_eq (sIf_no (st1 := st) (tNot_eq (b := true) (tV_eq (by
    have e1 : (1 : Int) ≤ (hs.countP fun o => o.isNone : Nat) := by omega
    have e2 : ((hs.countP fun o => o.isNone : Nat) : Int) ≤ 4 := by omega
    have e3 : (kCount (hD hs)).isSome = true := rfl
    simp [-List.map_map, eMt, count_non, e1, e2, e3]))))]
  rw [sSeq_eq (e1 := ((env0 [gD n L, hD hs]).put 2 false (.int n)).put 3 false (.lst ((rightL n L).map tI))) (st1 := st) (sSet_eq (Eq.trans (fn1 (eVar_eq (d := gD n L) (by simp [-List.map_map]))) (right_ones_eq h)))]
  refine sRet_eq (g1_eq (x := .lst (((rightL n L).filter (fits hs)).map tI)) ?_ (by simp [-List.map_map]))
  rw [eLc_pure (st1 := st) (rightL n L) tI (fits hs) tI]
  · simp [-List.map_map]
  · exact toLine (Nat.le_trans (rightL_le h.n8) (by decide))
  · intro o ho
    refine ⟨_, rfl, ?_, fun _ => by simp [-List.map_map]⟩
    have ol := (rightL_mem ho).len
    refine tV_eq (g1_eq (x := .lst ((o.zip hs).map fun p => .bl (fit1 (p.2, p.1)))) ?_ (by rw [allD_p, fits_swap]))
    rw [eLc_map (st1 := st) (o.zip hs) (fun p => .tup [.int p.1, oD p.2]) (fun p => .bl (fit1 (p.2, p.1)))]
    · rw [iZip_eq (x := tI o) (y := hD hs) (xs := o.map .int) (ys := hs.map oD) (by simp [-List.map_map]) (by simp [-List.map_map]) rfl rfl, zipD_map]
    · refine toLine ?_
      rw [List.length_zip]
      omega
    · exact fun e => rfl
    · intro p hp
      refine ⟨_, rfl, ?_⟩
      cases q : p.2 with
      | none => simp [-List.map_map, oD, isOp, isD', fit1, q]
      | some b =>
        simp [-List.map_map, oD, isOp, isD', fit1, q]
        exact ⟨fun z => z.symm, fun z => z.symm⟩
/-! ### needless -/
def less (L : List (List Int)) (k : Nat) : List (List Int) := L.take k ++ L.drop (k + 1)
theorem Gok.less {n : Nat} {L : List (List Int)} (h : Gok n L) (k : Nat) : Gok n (less L k) := by
  have hm : ∀ l ∈ Lw88.less L k, l ∈ L := fun l hl => by
    rcases List.mem_append.mp hl with z | z
    · exact List.mem_of_mem_take z
    · exact List.mem_of_mem_drop z
  refine ⟨h.n1, h.n8, ?_, fun l hl => h.up l (hm l hl), fun l hl => h.inn l (hm l hl), fun l hl => h.ne l (hm l hl)⟩
  have := h.few
  unfold Lw88.less
  rw [List.length_append, List.length_take, List.length_drop]
  omega
def needL (n : Nat) (L : List (List Int)) : List Nat := (List.range L.length).filter fun k => decide ((rightL n (less L k)).length = (rightL n L).length)
theorem less_eq {n : Nat} {L : List (List Int)} {i j k : Nat} {env : En} {st : Store} (h : Gok n L) (ei : env i = some (false, .int n)) (ej : env j = some (false, .tup (L.map tI))) (ek : env k = some (false, .int (x : Nat))) :
    eTup (lCons (eVar i) (lCons (eBin (pur addA) (eSl slA (eVar j) pNo (pAt (eVar k))) (eSl slA (eVar j) (pAt (eBin (pur addA) (eVar k) (eC (.int 1)))) pNo)) lNil)) env st = .ok (gD n (less L x)) st := by
  have a : slA (.tup (L.map tI)) none (some (x : Int)) = some (.tup ((L.take x).map tI)) := by
    show some (D.tup (cut (L.map tI) none (some (x : Int)))) = _
    rw [cut_to, List.map_take]
  have b : slA (.tup (L.map tI)) (some ((x : Int) + 1)) none = some (.tup ((L.drop (x + 1)).map tI)) := by
    show some (D.tup (cut (L.map tI) (some ((x : Int) + 1)) none)) = _
    rw [show ((x : Int) + 1) = ((x + 1 : Nat) : Int) by omega, cut_from, List.map_drop]
  have c : addA (.tup ((L.take x).map tI)) (.tup ((L.drop (x + 1)).map tI)) = some (.tup ((less L x).map tI)) := by
    rw [addA_tup]
    · rw [less, List.map_append]
    · have := h.few
      rw [List.length_map, List.length_map, List.length_take, List.length_drop]; omega
  have e1 : eSl slA (eVar j) pNo (pAt (eVar k)) env st = .ok (.tup ((L.take x).map tI)) st := by
    simp [-List.map_map, eSl, pAt, pNo, ej, ek, a]
  have e2 : eSl slA (eVar j) (pAt (eBin (pur addA) (eVar k) (eC (.int 1)))) pNo env st = .ok (.tup ((L.drop (x + 1)).map tI)) st := by
    simp [-List.map_map, eSl, pAt, pNo, ej, ek, b]
  have e3 := eBin_eq e1 e2 c
  have e4 := eVar_eq (st := st) ei
  unfold eTup lCons
  simp only [bnd_ok', e3, e4]
  simp [-List.map_map, gD]
theorem needless_eq {n : Nat} {L : List (List Int)} {st : Store} (h : Gok n L) : F_needless_lots [gD n L] st = .ok (.tup ((needL n L).map fun k => .int (k : Nat))) st := by
  have hf := h.few
  refine callS_rt ?_
  unfold M_needless_lots
  rw [sSeq_eq (chg h (by simp [-List.map_map])), sSeq_eq (e1 := ((env0 [gD n L]).put 1 false (.int n)).put 2 false (.tup (L.map tI))) (st1 := st) (by simp [-List.map_map, gD])]
  rw [sSeq_eq (e1 := (((env0 [gD n L]).put 1 false (.int n)).put 2 false (.tup (L.map tI))).put 3 false (.int ((rightL n L).length : Nat))) (st1 := st) (sSet_eq (g1_eq (Eq.trans (fn1 (eVar_eq (d := gD n L) (by simp [-List.map_map]))) (right_ones_eq h)) (by simp [-List.map_map])))]
  refine sRet_eq (g1_eq (x := .lst ((needL n L).map fun k => .int (k : Nat))) ?_ (by simp [-List.map_map]))
  rw [eLc_pure (st1 := st) (List.range L.length) (fun k => .int (k : Nat)) (fun k => decide ((rightL n (less L k)).length = (rightL n L).length)) (fun k => .int (k : Nat))]
  · rfl
  · exact iRng_eq (g1_eq (eVar_eq (d := .tup (L.map tI)) (by simp [-List.map_map])) (by simp [-List.map_map])) (by omega)
  · exact toLine (by simp [-List.map_map]; omega)
  · intro k hk
    refine ⟨_, rfl, ?_, fun _ => by simp [-List.map_map]⟩
    refine tV_eq (eBin_eq (st1 := st) (y := .int ((rightL n L).length : Nat)) (g1_eq (y := .int ((rightL n (less L k)).length : Nat)) (Eq.trans (fn1 (less_eq (x := k) h (by simp [-List.map_map]) (by simp [-List.map_map]) (by simp [-List.map_map]))) (right_ones_eq (h.less k))) (by simp [-List.map_map])) (eVar_eq (by simp [-List.map_map])) ?_)
    rw [eqD_int]
    congr 2
    rw [Bool.eq_iff_iff]
    simp only [decide_eq_true_eq]
    omega
/-! ### summed -/
def sumL (a b : List Int) : List Int := (a.zip b).map fun p => (p.1 + p.2) % 2
theorem sumL_ok {n : Nat} {a b : List Int} (ha : Mok n a) (hb : Mok n b) : Mok n (sumL a b) := by
  refine ⟨by simp [-List.map_map, sumL, ha.len, hb.len], fun x hx => ?_⟩
  obtain ⟨p, _, rfl⟩ := List.mem_map.mp hx
  omega
theorem summed_eq {n : Nat} {a b : List Int} {st : Store} (hn : 1 ≤ n ∧ n ≤ 8) (ha : Mok n a) (hb : Mok n b) : F_summed [tI a, tI b] st = .ok (tI (sumL a b)) st := by
  have msg : ∀ m, Mok n m → F_is_message [tI m, .int 1, .int 8] st = .ok (.bl true) st := fun m hm => by
    rw [is_message_eq (by simp [-List.map_map]) (by omega)]
    have := hm.msg
    simp only [msgB, tI, List.length_map, hm.len, Bool.and_eq_true, decide_eq_true_eq] at this ⊢
    congr 2
    rw [Bool.and_eq_true, decide_eq_true_eq]
    exact ⟨by omega, this.2⟩
  refine callS_rt ?_
  unfold M_summed
  obtain ⟨e', s', h1, h2, h3, h4⟩ := sFor_run (st := st) (st1 := st) (env := env0 [tI a, tI b]) (it := iSeq (eTup (lCons (eVar 0) (lCons (eVar 1) lNil)))) (g := gNm 2)
    (b := sIf (tNot' (tV (eFn F_is_message (lCons (eVar 2) (lCons (eC (.int 1)) (lCons (eC (.int 8)) lNil)))))) sNever sNil)
    (I := fun i e s => s = st ∧ e 0 = some (false, tI a) ∧ e 1 = some (false, tI b)) [tI a, tI b] (by simp [-List.map_map]) ⟨rfl, by simp [-List.map_map], by simp [-List.map_map]⟩ (by
      rintro i d e s hd ⟨rfl, he0, he1⟩
      have hd' : ∃ m, d = tI m ∧ Mok n m := by
        rcases i with _ | _ | i
        · exact ⟨a, by simpa [-List.map_map] using hd.symm, ha⟩
        · exact ⟨b, by simpa [-List.map_map] using hd.symm, hb⟩
        · simp [-List.map_map] at hd
      obtain ⟨m, rfl, hm⟩ := hd'
      exact ⟨_, e.put 2 false (tI m), s, rfl, sIf_no (tNot_eq (b := true) (tV_eq (Eq.trans (fn3 (eVar_eq (d := tI m) (by simp [-List.map_map])) (rfl : eC (.int 1) _ s = .ok (.int 1) s) (rfl : eC (.int 8) _ s = .ok (.int 8) s)) (msg m hm)))), rfl, by simpa [-List.map_map] using he0, by simpa [-List.map_map] using he1⟩)
  subst h2
  rw [sSeq_eq h1, sSeq_eq (sIf_no (tV_eq (eBin_eq (g1_eq (eVar_eq h3) lenD_tI) (g1_eq (eVar_eq h4) lenD_tI) (by rw [neD_int, ha.len, hb.len]; simp [-List.map_map]))))]
  refine sRet_eq (g1_eq (x := .lst ((sumL a b).map .int)) ?_ (by simp [-List.map_map, tI]))
  rw [eLc_map (st1 := s') (a.zip b) (fun p => .tup [.int p.1, .int p.2]) (fun p => .int ((p.1 + p.2) % 2))]
  · simp [-List.map_map, sumL, List.map_map, Function.comp_def]
  · rw [iZip_eq (x := tI a) (y := tI b) (xs := a.map .int) (ys := b.map .int) (eVar_eq h3) (eVar_eq h4) rfl rfl, zipD_map]
  · refine toLine ?_
    rw [List.length_zip, ha.len]
    omega
  · exact fun e => rfl
  · exact fun p hp => ⟨_, rfl, by simp [-List.map_map, modD_int]⟩
theorem gt_sum {a b : List Int} {x : Int} (hx : 0 ≤ x ∧ x < a.length) (hl : a.length = b.length) : gt (sumL a b) x = (gt a x + gt b x) % 2 := by
  obtain ⟨k, rfl⟩ : ∃ k : Nat, x = k := ⟨x.toNat, by omega⟩
  have hk : k < a.length := by omega
  have hk2 : k < b.length := by omega
  have hz : (a.zip b)[k]? = some (a[k], b[k]) := by
    rw [List.getElem?_eq_getElem (by rw [List.length_zip]; omega), List.getElem_zip]
  simp [-List.map_map, gt, sumL, hk, hk2, hz]
theorem par_sum {a b : List Int} (hl : a.length = b.length) : ∀ l : List Int, (∀ x ∈ l, 0 ≤ x ∧ x < a.length) → par (sumL a b) l = (par a l + par b l) % 2
  | [], _ => rfl
  | x :: l, h => by
    have ih := par_sum hl l fun y hy => h y (List.mem_cons_of_mem _ hy)
    have hx := gt_sum (h x List.mem_cons_self) hl
    unfold par at ih ⊢
    simp only [List.map_cons, List.sum_cons, hx]
    omega
theorem good_iff {L : List (List Int)} {m : List Int} : good L m = true ↔ ∀ l ∈ L, par m l ≠ 1 := by
  unfold good oddL
  simp only [List.length_map, beq_iff_eq, List.length_eq_zero_iff, List.filter_eq_nil_iff]
  constructor
  · intro h l hl z
    obtain ⟨i, hi⟩ := List.mem_iff_getElem?.mp hl
    exact h (l, i) (by rw [List.mem_zipIdx_iff_getElem?]; exact hi) (by simp [-List.map_map, z])
  · intro h p hp z
    exact h p.1 (List.mem_iff_getElem?.mpr ⟨p.2, List.mem_zipIdx_iff_getElem?.mp hp⟩) (by simpa [-List.map_map] using z)
theorem sum_good {n : Nat} {L : List (List Int)} {a b : List Int} (h : Gok n L) (ha : Mok n a) (hb : Mok n b) (ga : good L a = true) (gb : good L b = true) : good L (sumL a b) = true := by
  rw [good_iff] at ga gb ⊢
  intro l hl
  have h1 := ga l hl
  have h2 := gb l hl
  rw [par_sum (by rw [ha.len, hb.len]) l fun x hx => by rw [ha.len]; exact h.inn l hl x hx]
  have e1 : par a l = 0 := by unfold par at h1 ⊢; omega
  have e2 : par b l = 0 := by unfold par at h2 ⊢; omega
  rw [e1, e2]; decide
end Lw88


set_option Elab.async false
set_option linter.all false
set_option maxRecDepth 100000
set_option maxHeartbeats 2000000
namespace Lw88
open PySem PySem.Spec L2 Sm
theorem oddL_up {L : List (List Int)} {m : List Int} : ∀ (k : Nat) (q : List Int × Nat → Bool), incI (((L.zipIdx k).filter q).map fun p => (p.2 : Int)) = true ∧ ∀ x ∈ ((L.zipIdx k).filter q).map fun p => (p.2 : Int), (k : Int) ≤ x ∧ x < k + L.length := by
  induction L with
  | nil => exact fun k q => ⟨rfl, fun x h => by simp [-List.map_map] at h⟩
  | cons l L ih =>
    intro k q
    obtain ⟨h1, h2⟩ := ih (k + 1) q
    rw [List.zipIdx_cons]
    by_cases c : q (l, k) = true
    · rw [List.filter_cons_of_pos c, List.map_cons]
      refine ⟨?_, fun x hx => ?_⟩
      · cases e : ((L.zipIdx (k + 1)).filter q).map fun p => (p.2 : Int) with
        | nil => rfl
        | cons y ys =>
          rw [e] at h1 h2
          have := h2 y List.mem_cons_self
          simp only [incI, h1, Bool.and_true, decide_eq_true_eq]
          omega
      · rcases List.mem_cons.mp hx with z | z
        · rw [z]; simp only [List.length_cons]; omega
        · have := h2 x z; simp only [List.length_cons]; omega
    · rw [List.filter_cons_of_neg c]
      exact ⟨h1, fun x hx => by have := h2 x hx; simp only [List.length_cons]; omega⟩
theorem odd_lot {n : Nat} {L : List (List Int)} {m : List Int} (h : Gok n L) : lotB 5 (tI (oddL L m)) = true := by
  have hf := h.few
  obtain ⟨h1, h2⟩ := oddL_up (L := L) (m := m) 0 (fun p => par m p.1 == 1)
  simp only [lotB, tI, intsD_ints]
  have : incI (oddL L m) = true := h1
  rw [this, Bool.and_true]
  exact all_inR fun x hx => by have := h2 x hx; omega
theorem lotB_ints {d : D} {k : Int} (h : lotB k d = true) : ∃ ns, d = tI ns := by
  cases d with
  | tup xs =>
    simp only [lotB, Bool.and_eq_true] at h
    obtain ⟨ns, e, _⟩ := inR_all h.1
    exact ⟨ns, by rw [e]; rfl⟩
  | _ => simp [-List.map_map, lotB] at h
@[simp] theorem shp_tI60 {m : List Int} : shp 60 (tI m) = true := by simp [-List.map_map, tI]
@[simp] theorem nb_tI {m : List Int} : nb (tI m) = true := by simp [-List.map_map, tI]
theorem tI_inj {a b : List Int} : tI a = tI b ↔ a = b := by
  constructor
  · intro h
    have h2 : a.map D.int = b.map D.int := by simpa [-List.map_map, tI] using h
    have h3 := congrArg intsD h2
    rw [intsD_ints, intsD_ints] at h3
    exact Option.some.inj h3
  · rintro rfl; rfl
@[simp] theorem eqD_tI {a b : List Int} : eqD (tI a) (tI b) = some (.bl (decide (a = b))) := by
  unfold eqD
  rw [shp_tI60, shp_tI60]
  show some (D.bl (D.eqv (tI a) (tI b))) = _
  congr 2
  rw [Bool.eq_iff_iff, eqv_iff shp_tI60 shp_tI60 nb_tI nb_tI, tI_inj, decide_eq_true_eq]
theorem eqD_dec {a b : D} [Decidable (a = b)] (ha : shp 60 a = true) (hb : shp 60 b = true) (na : nb a = true) (nb' : nb b = true) : eqD a b = some (.bl (decide (a = b))) := by
  unfold eqD
  rw [ha, hb]
  show some (D.bl (D.eqv a b)) = _
  congr 2
  rw [Bool.eq_iff_iff, eqv_iff ha hb na nb', decide_eq_true_eq]
/-- what may be told -/
structure Thg (d : D) : Prop where
  t : dat 60 d = true
  l : ∀ x y r, d = .tup (x :: y :: r) → ∀ ys, y = .tup ys → ys.length ≤ line
def hdB (a b : Int) : D → Bool
  | .tup (.str _ :: r) => decide (a ≤ (r.length : Int) + 1 ∧ (r.length : Int) + 1 ≤ b)
  | _ => false
theorem hd_ok {d : D} {a b : Int} {env : En} {st : Store} (h : dat 60 d = true) (e2 : env 2 = some (false, d)) (ha : 1 ≤ a) :
    tOr' (tNot' (tV (eFn F_is_tuple (lCons (eVar 2) (lCons (eC (.int a)) (lCons (eC (.int b)) lNil)))))) (tNot' (tV (eIsa PyData.isStr (eBin ixD (eVar 2) (eC (.int 0)))))) env st = .ok (!hdB a b d) st := by
  have t : eFn F_is_tuple (lCons (eVar 2) (lCons (eC (.int a)) (lCons (eC (.int b)) lNil))) env st = F_is_tuple [d, .int a, .int b] st := fn3 (eVar_eq e2) (rfl : eC (.int a) _ st = .ok (.int a) st) (rfl : eC (.int b) _ st = .ok (.int b) st)
  cases d with
  | tup xs =>
    cases xs with
    | nil =>
      have t2 : F_is_tuple [.tup [], .int a, .int b] st = .ok (.bl false) st := by
        rw [is_tuple_eq h]
        have : ¬ a ≤ 0 := by omega
        simp [-List.map_map, this]
      rw [tOr_yes (tNot_eq (b := false) (tV_eq (Eq.trans t t2)))]
      rfl
    | cons x r =>
      have hx0 : dat 60 x = true := dat_all h x List.mem_cons_self
      have es := (isa_T hx0).2.2.1
      have t2 : F_is_tuple [.tup (x :: r), .int a, .int b] st = .ok (.bl (decide (a ≤ (r.length : Int) + 1 ∧ (r.length : Int) + 1 ≤ b))) st := by
        rw [is_tuple_eq h]
        simp [-List.map_map]
      by_cases q : a ≤ (r.length : Int) + 1 ∧ (r.length : Int) + 1 ≤ b
      · rw [decide_eq_true q] at t2
        rw [tOr_no (tNot_eq (b := true) (tV_eq (Eq.trans t t2)))]
        have e3 : eIsa PyData.isStr (eBin ixD (eVar 2) (eC (.int 0))) env st = .ok (.bl x.isStr) st := by
          simp [-List.map_map, e2, hx0, es]
        rw [tNot_eq (tV_eq e3)]
        cases x with
        | str s => simp only [hdB, decide_eq_true q]; rfl
        | _ => rfl
      · rw [decide_eq_false q] at t2
        rw [tOr_yes (tNot_eq (b := false) (tV_eq (Eq.trans t t2)))]
        cases x with
        | str s => simp only [hdB, decide_eq_false q]; rfl
        | _ => rfl
  | _ =>
    have t2 := is_tuple_eq (st := st) (a := a) (b := b) h
    rw [tOr_yes (tNot_eq (b := false) (tV_eq (Eq.trans t t2)))]
    rfl
theorem hdB_yes {a b : Int} {d : D} (h : hdB a b d = true) : ∃ s r, d = .tup (.str s :: r) ∧ a ≤ (r.length : Int) + 1 ∧ (r.length : Int) + 1 ≤ b := by
  unfold hdB at h
  split at h
  · exact ⟨_, _, rfl, of_decide_eq_true h⟩
  · cases h
open Classical in
theorem is_right_or_odd_eq {n : Nat} {L : List (List Int)} {m : List Int} {d : D} {st : Store} (h : Gok n L) (hm : Mok n m) (hd : Thg d) : F_is_right_or_odd [gD n L, tI m, d] st = .ok (.bl (decide (d = firstD L m))) st := by
  have hdd := hd.t
  refine callS_rt ?_
  unfold M_is_right_or_odd
  rw [sSeq_eq (chk h hm (by simp [-List.map_map]) (by simp [-List.map_map]))]
  have t0 := hd_ok (d := d) (a := 1) (b := 2) (env := env0 [gD n L, tI m, d]) (st := st) hdd rfl (by omega)
  cases q : hdB 1 2 d with
  | false =>
    rw [q] at t0
    have ne : d ≠ firstD L m := fun z => by
      rw [z] at q
      unfold firstD at q
      split at q <;> simp [-List.map_map, hdB] at q
    refine sSeq_rt ?_
    rw [sIf_eq t0]
    simp [-List.map_map, ne]
  | true =>
    rw [q] at t0
    obtain ⟨s, r, rfl, q1, q2⟩ := hdB_yes q
    have ho : eFn F_odd_of (lCons (eVar 0) (lCons (eVar 1) lNil)) (env0 [gD n L, tI m, .tup (.str s :: r)]) st = .ok (tI (oddL L m)) st := Eq.trans (fn2 (eVar_eq (d := gD n L) (by simp [-List.map_map])) (eVar_eq (d := tI m) (by simp [-List.map_map]))) (odd_ok h hm)
    rw [sSeq_eq (sIf_no t0), sSeq_eq (sSet_eq ho)]
    by_cases s1 : s = "right"
    · subst s1
      refine sSeq_rt ?_
      rw [sIf_eq (c := true) (st1 := st) (by simp [-List.map_map]), if_pos rfl]
      refine sRet_eq ?_
      cases r with
      | nil =>
        by_cases c : 0 < (oddL L m).length
        · have c' : ¬ (oddL L m).length = 0 := by omega
          have c2 : ¬ ((oddL L m).length : Int) = 0 := by omega
          have ne : ¬ (D.tup [.str "right"] = firstD L m) := by simp [-List.map_map, firstD, c]
          rw [decide_eq_false ne]
          simp [-List.map_map]
          exact fun z => c' (by simp [-List.map_map, z])
        · have c' : (oddL L m) = [] := List.eq_nil_of_length_eq_zero (by omega)
          simp [-List.map_map, firstD, c']
      | cons y r =>
        have : ¬ ((r.length : Int) + 1 + 1 = 1) := by omega
        have ne : ¬ (D.tup (.str "right" :: y :: r) = firstD L m) := fun z => by
          unfold firstD at z
          split at z
          · simp [-List.map_map] at z
            exact absurd z.1 (by decide)
          · simp [-List.map_map] at z
        rw [decide_eq_false ne]
        simp [-List.map_map, this]
    · rw [sSeq_eq (sIf_no (st1 := st) (by simp [-List.map_map, s1]))]
      by_cases s2 : s = "odd" ∧ r.length = 1 ∧ 0 < (oddL L m).length
      · obtain ⟨rfl, r1, c⟩ := s2
        obtain ⟨y, rfl⟩ : ∃ y, r = [y] := by
          cases r with
          | nil => simp [-List.map_map] at r1
          | cons y r =>
            have : r = [] := List.eq_nil_of_length_eq_zero (by simpa [-List.map_map] using r1)
            exact ⟨y, by rw [this]⟩
        have c2 : ¬ ((oddL L m).length : Int) = 0 := by omega
        have c3 : ¬ (oddL L m) = [] := fun z => by simp [-List.map_map, z] at c
        have hy : dat 60 y = true := dat_all hdd y (by simp [-List.map_map])
        have el : ∀ st, F_is_lot [y, .int 5] st = .ok (.bl (lotB 5 y)) st := fun st => is_lot_eq hy fun ys e => hd.l _ _ _ rfl ys e
        rw [sSeq_eq (sIf_no (st1 := st) (by simp [-List.map_map, c3]))]
        refine sRet_eq ?_
        have ef : firstD L m = .tup [.str "odd", tI (oddL L m)] := by simp [-List.map_map, firstD, c]
        rw [ef]
        cases lo : lotB 5 y with
        | true =>
          obtain ⟨ns, rfl⟩ := lotB_ints lo
          simp [-List.map_map, el, lo, tI_inj]
        | false =>
          have ne : y ≠ tI (oddL L m) := fun z => by rw [z, odd_lot h] at lo; cases lo
          simp [-List.map_map, el, lo, ne]
      · have ne : ¬ (D.tup (.str s :: r) = firstD L m) := fun z => by
          unfold firstD at z
          split at z
          · rename_i c
            simp [-List.map_map] at z
            exact s2 ⟨z.1, by rw [z.2]; rfl, c⟩
          · simp [-List.map_map] at z
            exact s1 z.1
        rw [decide_eq_false ne]
        refine sSeq_rt ?_
        rw [sIf_eq (c := true) (st1 := st), if_pos rfl]
        · exact sRet_eq rfl
        · by_cases a1 : s = "odd"
          · by_cases a2 : r.length = 1
            · have a3 : ¬ 0 < (oddL L m).length := fun z => s2 ⟨a1, a2, z⟩
              have a4 : oddL L m = [] := List.eq_nil_of_length_eq_zero (by omega)
              simp [-List.map_map, a1, a2, a4]
            · have : ¬ ((r.length : Int) + 1 = 2) := by omega
              simp [-List.map_map, a1, this]
          · simp [-List.map_map, a1]
end Lw88


set_option Elab.async false
set_option linter.all false
set_option maxRecDepth 100000
set_option maxHeartbeats 2000000
namespace Lw88
open PySem PySem.Spec L2 Sm
theorem shp_toldD (n : Nat) (L : List (List Int)) (m : List Int) : shp 60 (toldD n L m) = true ∧ nb (toldD n L m) = true := by
  unfold toldD
  split <;> simp [-List.map_map, tI]
theorem off_nonneg (a b : List Int) : 0 ≤ off a b := by unfold off; omega
theorem off_le (a b : List Int) : off a b ≤ a.length := by
  unfold off
  have h1 := List.length_filter_le (fun p : Int × Int => !decide (p.1 = p.2)) (a.zip b)
  rw [List.length_zip] at h1
  omega
theorem least_ok {n : Nat} {L : List (List Int)} {m : List Int} : 0 ≤ least n L m ∧ least n L m ≤ n := by
  unfold least
  obtain ⟨xs, hc, hx⟩ := rightL_cons n L
  rw [hc]
  have h1 := mn_mem (xs.map fun o => off o m) (off (List.replicate n 0) m)
  have h2 := (mn_le (xs.map fun o => off o m) (off (List.replicate n 0) m)).1
  have h3 := off_le (List.replicate n 0) m
  rw [List.length_replicate] at h3
  refine ⟨?_, by show mn _ _ ≤ _; omega⟩
  rcases List.mem_cons.mp h1 with z | z
  · show 0 ≤ mn _ _
    rw [z]; exact off_nonneg _ _
  · obtain ⟨o, _, e⟩ := List.mem_map.mp z
    show 0 ≤ mn _ _
    rw [← e]; exact off_nonneg _ _
def natB : D → Bool
  | .int i => decide (0 ≤ i)
  | _ => false
theorem nat_all : ∀ {xs : List D}, xs.all natB = true → ∃ ns : List Int, xs = ns.map .int
  | [], _ => ⟨[], rfl⟩
  | x :: xs, h => by
    rw [List.all_cons, Bool.and_eq_true] at h
    obtain ⟨ns, e⟩ := nat_all h.2
    cases x with
    | int i => exact ⟨i :: ns, by rw [e]; rfl⟩
    | _ => exact absurd h.1 (by simp [-List.map_map, natB])
open Classical in
theorem is_mended_or_doubt_eq {n : Nat} {L : List (List Int)} {m : List Int} {d : D} {st : Store} (h : Gok n L) (hm : Mok n m) (hd : Thg d) : F_is_mended_or_doubt [gD n L, tI m, d] st = .ok (.bl (decide (d = toldD n L m))) st := by
  have hdd := hd.t
  have h8 := h.n8
  refine callS_rt ?_
  unfold M_is_mended_or_doubt
  rw [sSeq_eq (chk h hm (by simp [-List.map_map]) (by simp [-List.map_map]))]
  have t0 := hd_ok (d := d) (a := 2) (b := 3) (env := env0 [gD n L, tI m, d]) (st := st) hdd rfl (by omega)
  cases q : hdB 2 3 d with
  | false =>
    rw [q] at t0
    have ne : d ≠ toldD n L m := fun z => by
      rw [z] at q
      unfold toldD at q
      split at q <;> simp [-List.map_map, hdB] at q
    refine sSeq_rt ?_
    rw [sIf_eq t0]
    simp [-List.map_map, ne]
  | true =>
    rw [q] at t0
    obtain ⟨s, r, rfl, q1, q2⟩ := hdB_yes q
    obtain ⟨sh, nbt⟩ := shp_toldD n L m
    have ht : eFn F_told (lCons (eVar 0) (lCons (eVar 1) lNil)) (env0 [gD n L, tI m, .tup (.str s :: r)]) st = .ok (toldD n L m) st := Eq.trans (fn2 (eVar_eq (d := gD n L) (by simp [-List.map_map])) (eVar_eq (d := tI m) (by simp [-List.map_map]))) (told_eq h hm)
    rw [sSeq_eq (sIf_no t0)]
    by_cases s1 : s = "mended"
    · subst s1
      refine sSeq_rt ?_
      rw [sIf_eq (c := true) (st1 := st) (by simp [-List.map_map]), if_pos rfl]
      refine sRet_eq ?_
      by_cases r1 : r.length = 1
      · obtain ⟨y, rfl⟩ : ∃ y, r = [y] := by
          cases r with
          | nil => simp [-List.map_map] at r1
          | cons y r =>
            have : r = [] := List.eq_nil_of_length_eq_zero (by simpa [-List.map_map] using r1)
            exact ⟨y, by rw [this]⟩
        have hy : dat 60 y = true := dat_all hdd y (by simp [-List.map_map])
        have em : ∀ st, F_is_message [y, .int n, .int n] st = .ok (.bl (msgB n n y)) st := fun st => is_message_eq hy (by omega)
        cases lo : msgB n n y with
        | true =>
          have : ∃ ns, y = tI ns := by
            cases y with
            | tup xs =>
              simp only [msgB, Bool.and_eq_true] at lo
              obtain ⟨ns, e, _⟩ := inR_all lo.2
              exact ⟨ns, by rw [e]; rfl⟩
            | _ => simp [-List.map_map, msgB] at lo
          obtain ⟨ns, rfl⟩ := this
          have e := eqD_dec (a := .tup [.str "mended", tI ns]) (b := toldD n L m) (by simp [-List.map_map, tI]) sh (by simp [-List.map_map, tI]) nbt
          rw [eAnd_t (st1 := st) (by simp [-List.map_map]), eAnd_t (st1 := st) (Eq.trans (fn3 (x := tI ns) (y := .int n) (z := .int n) (st1 := st) (st2 := st) (st3 := st) (by simp [-List.map_map]) (by simp [-List.map_map]) (by simp [-List.map_map])) (by rw [em, lo]))]
          exact eBin_eq (eVar_eq (by simp [-List.map_map])) ht e
        | false =>
          have ne : ¬ D.tup [.str "mended", y] = toldD n L m := fun z => by
            unfold toldD at z
            split at z
            · rename_i c
              obtain ⟨o, ho, hr⟩ := near_one c
              simp [-List.map_map, ho] at z
              rw [z, (rightL_mem hr).msg] at lo
              cases lo
            · simp [-List.map_map] at z
          rw [decide_eq_false ne]
          rw [eAnd_t (st1 := st) (by simp [-List.map_map]), eAnd_f (st1 := st) (Eq.trans (fn3 (x := y) (y := .int n) (z := .int n) (st1 := st) (st2 := st) (st3 := st) (by simp [-List.map_map]) (by simp [-List.map_map]) (by simp [-List.map_map])) (by rw [em, lo]))]
      · have ne : ¬ D.tup (.str "mended" :: r) = toldD n L m := fun z => by
          unfold toldD at z
          split at z
          · simp [-List.map_map] at z
            rw [z] at r1
            simp [-List.map_map] at r1
          · simp [-List.map_map] at z
            exact absurd z.1 (by decide)
        rw [decide_eq_false ne]
        have : ¬ ((r.length : Int) + 1 = 2) := by omega
        exact eAnd_f (by simp [-List.map_map, this])
    · rw [sSeq_eq (sIf_no (st1 := st) (by simp [-List.map_map, s1]))]
      refine sRet_eq ?_
      have ea : eFn (g1 fun d => lift (allD d)) (lCons (eLc [3, 4] (iSeq (eSl slA (eVar 2) (pAt (eC (.int 1))) pNo)) (gNm 4) tYesS (eFn F_is_number (lCons (eVar 4) lNil))) lNil) (env0 [gD n L, tI m, .tup (.str s :: r)]) st = .ok (.bl (r.all natB)) st := by
        refine g1_eq (x := .lst (r.map fun x => .bl (natB x))) ?_ (by rw [allD_p])
        rw [eLc_map (st1 := st) r id (fun x => .bl (natB x))]
        · refine iSeq_eq (x := .tup r) ?_ (by simp [-List.map_map])
          have : slA (.tup (.str s :: r)) (some 1) none = some (.tup r) := by
            show some (D.tup (cut (D.str s :: r) (some 1) none)) = _
            rw [cut1]; rfl
          simp [-List.map_map, eSl, pAt, pNo, this]
        · exact toLine (by omega)
        · exact fun e => rfl
        · intro x hx
          refine ⟨_, rfl, ?_⟩
          have hx' : dat 60 x = true := dat_all hdd x (by simp [-List.map_map, hx])
          rw [fn1 (eVar_eq (d := x) (by simp [-List.map_map])), is_number_eq hx']
          cases x <;> rfl
      cases al : r.all natB with
      | true =>
        rw [al] at ea
        obtain ⟨ns, rfl⟩ := nat_all al
        have e := eqD_dec (a := .tup (.str s :: ns.map .int)) (b := toldD n L m) (by simp [-List.map_map]) sh (by simp [-List.map_map]) nbt
        rw [eAnd_t ea]
        exact eBin_eq (eVar_eq (by simp [-List.map_map])) ht e
      | false =>
        rw [al] at ea
        have ne : ¬ D.tup (.str s :: r) = toldD n L m := fun z => by
          unfold toldD at z
          split at z
          · simp [-List.map_map] at z
            exact s1 z.1
          · simp [-List.map_map] at z
            rw [z.2] at al
            have := (least_ok (n := n) (L := L) (m := m)).1
            simp [-List.map_map, natB, this] at al
        rw [decide_eq_false ne]
        exact eAnd_f ea
end Lw88


set_option Elab.async false
set_option linter.all false
set_option maxRecDepth 100000
set_option maxHeartbeats 2000000
namespace Lw88
open PySem PySem.Spec L2 Sm
theorem law_draw_ok {h : List D} (hh : Hok h) {many : Int} (h1 : 1 ≤ many) (h2 : many < 1073741824) : ∃ r h', F__law_draw [.obj 0, .int many] [h] = .ok (.int r) [h'] ∧ 0 ≤ r ∧ r < many ∧ Hok h' := draw_ok hh h1 h2
theorem law_some_ok {h : List D} (hh : Hok h) {xs : List D} (h1 : 1 ≤ xs.length) (h2 : xs.length ≤ 1000) : ∃ x h', F__law_some [.obj 0, .lst xs] [h] = .ok x [h'] ∧ x ∈ xs ∧ Hok h' := by
  obtain ⟨r, h', e, r0, r1, hk⟩ := law_draw_ok hh (many := (xs.length : Nat)) (by omega) (by omega)
  obtain ⟨k, rfl⟩ : ∃ k : Nat, r = k := ⟨r.toNat, by omega⟩
  have hk' : k < xs.length := by omega
  refine ⟨xs[k], h', ?_, List.getElem_mem hk', hk⟩
  refine callS_rt (sRet_eq ?_)
  have e2 : eFn F__law_draw (lCons (eVar 0) (lCons (eFn (g1 fun d => lift (lenD d)) (lCons (eVar 1) lNil)) lNil)) (env0 [.obj 0, .lst xs]) [h] = .ok (.int (k : Nat)) [h'] :=
    Eq.trans (fn2 (eVar_eq (d := .obj 0) (by simp [-List.map_map])) (g1_eq (x := .lst xs) (y := .int (xs.length : Nat)) (eVar_eq (by simp [-List.map_map])) (by simp [-List.map_map]))) e
  have e3 : eVar 1 (env0 [.obj 0, .lst xs]) [h] = .ok (.lst xs) [h] := by simp [-List.map_map]
  have e4 : atI xs (k : Int) = some xs[k] := by
    rw [atI_ok .non ⟨by omega, by omega⟩]
    simp [-List.map_map, hk']
  unfold eBin
  rw [bnd_eq e3, bnd_eq e2, ixD_lst, e4]
  rfl
theorem flag_eq {a b : Bool} {st : Store} : F__law_flag [.bl a, .bl b] st = .ok (.bl (decide (a = b))) st := by
  refine callS_rt (sRet_eq ?_)
  have e : (D.bl a).py.isBool = true := (isa_T (d := .bl a) (by simp [-List.map_map])).2.2.2.1
  rw [eAnd_t (st1 := st) (by simp [-List.map_map, e])]
  refine eBin_eq (eVar_eq (d := .bl a) (by simp [-List.map_map])) (eVar_eq (d := .bl b) (by simp [-List.map_map])) ?_
  simp [-List.map_map, eqD]
theorem incI_snoc : ∀ {ns : List Int} {k : Int}, incI ns = true → (∀ x ∈ ns, x < k) → incI (ns ++ [k]) = true
  | [], k, _, _ => rfl
  | [a], k, _, h => by
    have := h a (by simp [-List.map_map])
    simp [-List.map_map, incI, this]
  | a :: b :: r, k, h, hk => by
    simp only [incI, Bool.and_eq_true] at h
    have := incI_snoc h.2 fun x hx => hk x (List.mem_cons_of_mem _ hx)
    simp only [List.cons_append, incI, Bool.and_eq_true]
    exact ⟨h.1, this⟩
/-- a lot is drawn -/
theorem lot_ok {n : Nat} {env : En} {h : List D} (hn : n ≤ 8) (hh : Hok h) (e0 : env 0 = some (false, .obj 0)) (e2 : env 2 = some (false, .int n)) :
    ∃ (ns : List Int) (h' : List D), eLc [6, 7] (iRng1S (eVar 2)) (gNm 7) (tV (eBin (pur eqD) (eFn F__law_draw (lCons (eVar 0) (lCons (eC (.int 2)) lNil))) (eC (.int 0)))) (eVar 7) env [h] = .ok (.lst (ns.map .int)) [h'] ∧ Hok h' ∧ incI ns = true ∧ (∀ x ∈ ns, 0 ≤ x ∧ x < n) ∧ ns.length ≤ n := by
  obtain ⟨ys, s', e, ns, h', rfl, rfl, hk, h1, h2, h3⟩ := eLc_run (st := [h]) (st1 := [h]) (vs := [6, 7]) (it := iRng1S (eVar 2)) (g := gNm 7) (t := tV (eBin (pur eqD) (eFn F__law_draw (lCons (eVar 0) (lCons (eC (.int 2)) lNil))) (eC (.int 0)))) (m := eVar 7) (env := env)
    (I := fun i ys s => ∃ (ns : List Int) (h' : List D), ys = ns.map .int ∧ s = [h'] ∧ Hok h' ∧ incI ns = true ∧ (∀ x ∈ ns, 0 ≤ x ∧ x < (i : Int)) ∧ ns.length ≤ i) ((List.range n).map fun i => .int (i : Nat))
    (iRng_eq (eVar_eq e2) (by omega)) (by simp [-List.map_map]; omega) ⟨[], h, rfl, rfl, hh, rfl, fun x hx => (by cases hx), Nat.le_refl _⟩ (by
      rintro i d a s hd ⟨ns, h', rfl, rfl, hk, h1, h2, h3⟩
      have hd' : d = .int (i : Nat) := by
        obtain ⟨hl, hd⟩ := List.getElem?_eq_some_iff.mp hd
        simpa [-List.map_map] using hd.symm
      subst hd'
      obtain ⟨r, h2', e, r0, r1, hk2⟩ := law_draw_ok hk (many := 2) (by omega) (by omega)
      refine ⟨_, decide (r = 0), [h2'], rfl, ?_, fun _ => ⟨.int (i : Nat), [h2'], by simp [-List.map_map], ns ++ [(i : Int)], h2', by simp [-List.map_map], rfl, hk2, incI_snoc h1 fun x hx => (h2 x hx).2, fun x hx => ?_, by simp [-List.map_map]; omega⟩, fun _ => ⟨ns, h2', rfl, rfl, hk2, h1, fun x hx => by have := h2 x hx; omega, by omega⟩⟩
      · refine tV_eq (eBin_eq (Eq.trans (fn2 (eVar_eq (d := .obj 0) (by simp [-List.map_map, e0])) (eC_eq (d := .int 2))) e) (eC_eq (d := .int 0)) ?_)
        rw [eqD_int]
      · rcases List.mem_append.mp hx with z | z
        · have := h2 x z; omega
        · have : x = i := by simpa [-List.map_map] using z
          omega)
  rw [List.length_map, List.length_range] at h2 h3
  exact ⟨ns, h', e, hk, h1, h2, h3⟩
theorem law_guards_ok {h : List D} (hh : Hok h) : ∃ n L h', F__law_guards [.obj 0, .int 6] [h] = .ok (gD n L) [h'] ∧ Gok n L ∧ Hok h' := by
  obtain ⟨r, h1, e1, r0, r1, k1⟩ := law_draw_ok hh (many := 6) (by omega) (by omega)
  obtain ⟨n, rfl⟩ : ∃ n : Nat, r = n := ⟨r.toNat, by omega⟩
  obtain ⟨r2, h2, e2, r20, r21, k2⟩ := law_draw_ok k1 (many := 6) (by omega) (by omega)
  obtain ⟨t, rfl⟩ : ∃ t : Nat, r2 = t := ⟨r2.toNat, by omega⟩
  have hn : n + 1 ≤ 6 := by omega
  let E1 : En := (env0 [.obj 0, .int 6]).put 2 false (.int ((n + 1 : Nat) : Int))
  obtain ⟨e', s', f1, L, h', rfl, f3, f4, f5, f6, f7⟩ := sFor_run (st := [h1]) (st1 := [h2]) (env := E1.put 3 true (.lst [])) (it := iRng1S (eFn F__law_draw (lCons (eVar 0) (lCons (eC (.int 6)) lNil)))) (g := gNm 4)
    (b := (sSeq (sSet 5 (eFn (g1 fun d => lift (tupD d)) (lCons (eLc [6, 7] (iRng1S (eVar 2)) (gNm 7) (tV (eBin (pur eqD) (eFn F__law_draw (lCons (eVar 0) (lCons (eC (.int 2)) lNil))) (eC (.int 0)))) (eVar 7)) lNil))) (sExt 3 (eBin (pur mulL) (eLst (lCons (eVar 5) lNil)) (eFn (g1 fun d => lift (intD d)) (lCons (eBin (pur gtD) (eFn (g1 fun d => lift (lenD d)) (lCons (eVar 5) lNil)) (eC (.int 0))) lNil))))))
    (I := fun i e s => ∃ (L : List (List Int)) (h' : List D), s = [h'] ∧ Hok h' ∧ e 3 = some (true, .lst (L.map tI)) ∧ e 0 = some (false, .obj 0) ∧ e 2 = some (false, .int ((n + 1 : Nat) : Int)) ∧ L.length ≤ i ∧ ∀ l ∈ L, incI l = true ∧ (∀ x ∈ l, 0 ≤ x ∧ x < ((n + 1 : Nat) : Int)) ∧ 1 ≤ l.length ∧ l.length ≤ 8) ((List.range t).map fun i => .int (i : Nat))
    (iRng_eq (Eq.trans (fn2 (eVar_eq (d := .obj 0) (by simp [-List.map_map, E1])) (eC_eq (d := .int 6))) e2) (by omega)) ⟨[], h2, rfl, k2, by simp [-List.map_map], by simp [-List.map_map, E1], by simp [-List.map_map, E1], Nat.le_refl _, fun l hl => (by cases hl)⟩ (by
      rintro i d e s hd ⟨L, h', rfl, hk, g3, g0, g2, gl, gs⟩
      have hi : i < t := by
        have := (List.getElem?_eq_some_iff.mp hd).1
        simpa [-List.map_map] using this
      obtain ⟨ns, h3, c1, c2, c3, c4, c5⟩ := lot_ok (n := n + 1) (env := e.put 4 false d) (by omega) hk (by simp [-List.map_map, g0]) (by simp [-List.map_map, g2])
      have s1 : sSet 5 (eFn (g1 fun d => lift (tupD d)) (lCons (eLc [6, 7] (iRng1S (eVar 2)) (gNm 7) (tV (eBin (pur eqD) (eFn F__law_draw (lCons (eVar 0) (lCons (eC (.int 2)) lNil))) (eC (.int 0)))) (eVar 7)) lNil)) (e.put 4 false d) [h'] = .ok (.nx ((e.put 4 false d).put 5 false (tI ns))) [h3] :=
        sSet_eq (g1_eq c1 (by simp [-List.map_map, tI]))
      by_cases z : 0 < ns.length
      · have z2 : (0 : Int) < (ns.length : Int) := by omega
        refine ⟨_, (((e.put 4 false d).put 5 false (tI ns)).put 3 true (.lst ((L ++ [ns]).map tI))), [h3], rfl, ?_, L ++ [ns], h3, rfl, c2, by simp [-List.map_map], by simp [-List.map_map, g0], by simp [-List.map_map, g2], by simp [-List.map_map]; omega, fun l hl => ?_⟩
        · rw [sSeq_eq s1]
          have q1 : L.length + 1 ≤ line := toLine (by omega)
          have q2 : mulL (.lst [tI ns]) (.int 1) = some (.lst [tI ns]) := by
            show (if -(2 ^ 63) ≤ (1 : Int) ∧ (1 : Int) < 2 ^ 63 ∧ [tI ns].length * (1 : Int).toNat ≤ line then some (D.lst (List.replicate (1 : Int).toNat [tI ns]).flatten) else none) = _
            rw [if_pos (by refine ⟨by decide, by decide, toLine (by simp [-List.map_map])⟩)]
            simp [-List.map_map]
          simp [-List.map_map, sExt, withOwn, ownL, g3, z, q2, extL, q1]
        · rcases List.mem_append.mp hl with w | w
          · exact gs l w
          · have : l = ns := by simpa [-List.map_map] using w
            subst this
            exact ⟨c3, c4, by omega, by omega⟩
      · have z0 : ns = [] := List.eq_nil_of_length_eq_zero (by omega)
        subst z0
        refine ⟨_, (((e.put 4 false d).put 5 false (tI [])).put 3 true (.lst (L.map tI))), [h3], rfl, ?_, L, h3, rfl, c2, by simp [-List.map_map], by simp [-List.map_map, g0], by simp [-List.map_map, g2], by omega, gs⟩
        rw [sSeq_eq s1]
        have q1 : L.length ≤ line := toLine (by omega)
        have q2 : mulL (.lst [tI []]) (.int 0) = some (.lst []) := by
          show (if -(2 ^ 63) ≤ (0 : Int) ∧ (0 : Int) < 2 ^ 63 ∧ [tI []].length * (0 : Int).toNat ≤ line then some (D.lst (List.replicate (0 : Int).toNat [tI []]).flatten) else none) = _
          rw [if_pos (by refine ⟨by decide, by decide, toLine (by simp [-List.map_map])⟩)]
          simp [-List.map_map]
        simp [-List.map_map, sExt, withOwn, ownL, g3, q2, extL, q1])
  rw [List.length_map, List.length_range] at f7
  refine ⟨n + 1, L, h', ?_, ⟨by omega, by omega, by omega, fun l hl => (f7.2 l hl).1, fun l hl => (f7.2 l hl).2.1, fun l hl => (f7.2 l hl).2.2⟩, f3⟩
  refine callS_rt ?_
  unfold M__law_guards
  rw [sSeq_eq (e1 := E1) (st1 := [h1]) (sSet_eq (eBin_eq (z := .int ((n + 1 : Nat) : Int)) eC_eq (Eq.trans (fn2 (eVar_eq (d := .obj 0) (by simp [-List.map_map])) (eVar_eq (d := .int 6) (by simp [-List.map_map]))) e1) (by simp [-List.map_map]; omega))),
    sSeq_eq (sOwn_eq (d := .lst []) (st1 := [h1]) (by simp [-List.map_map])), sSeq_eq f1]
  refine sRet_eq ?_
  simp [-List.map_map, f4, f6, eVarB, gD]
end Lw88


set_option Elab.async false
set_option linter.all false
set_option maxRecDepth 100000
set_option maxHeartbeats 2000000
namespace Lw88
open PySem PySem.Spec L2 Sm
@[simp] theorem wrd_tup {xs : List D} : wrd (.tup xs) = xs.all wrd := by simp [-List.map_map, wrd]
@[simp] theorem wrd_lst {xs : List D} : wrd (.lst xs) = xs.all wrd := by simp [-List.map_map, wrd]
@[simp] theorem wrd_int {i : Int} : wrd (.int i) = true := by simp [-List.map_map, wrd]
@[simp] theorem wrd_bl {i : Bool} : wrd (.bl i) = true := by simp [-List.map_map, wrd]
@[simp] theorem wrd_non : wrd .non = true := by simp [-List.map_map, wrd]
@[simp] theorem wrd_dct1 {k d : D} : wrd (.dct [(k, d)]) = (wrd k && wrd d) := by simp [-List.map_map, wrd, wrdK]
/-- a deep thing after k turns -/
structure Dp (k : Nat) (d : D) : Prop where
  t : dat (k + 1) d = true
  w : wrd d = true
  s : smI d = true
  l : wt d ≤ 100 * (k + 1)
  f : d = .tup [.str "?!"] ∨ ((∀ s, d ≠ .str s) ∧ ∀ xs, d = .tup xs → ∃ x, xs = [x] ∧ ∀ s, x ≠ .str s)
theorem word_qm : wrd (.str "?!") = true := by decide +kernel
theorem word_odd : wrd (.str "odd") = true := by decide +kernel
theorem word_right : wrd (.str "right") = true := by decide +kernel
theorem word_mended : wrd (.str "mended") = true := by decide +kernel
theorem word_doubt : wrd (.str "doubt") = true := by decide +kernel
theorem Dp.no {k : Nat} {d : D} (h : Dp k d) : ∀ s, d ≠ .str s := by
  rcases h.f with z | z
  · rw [z]; simp [-List.map_map, -wrd]
  · exact z.1
theorem dp_zero : Dp 0 (.tup [.str "?!"]) := ⟨by simp [-List.map_map, -wrd, dat, datL], by simp [-List.map_map, -wrd, word_qm], by simp [-List.map_map, -wrd], by decide, .inl rfl⟩
theorem dp_tup {k : Nat} {d : D} (h : Dp k d) : Dp (k + 1) (.tup [d]) := ⟨by simp [-List.map_map, -wrd, h.t], by simp [-List.map_map, -wrd, h.w], by simp [-List.map_map, -wrd, h.s], by have := h.l; simp only [wt, wtL]; omega, .inr ⟨by simp [-List.map_map, -wrd], fun xs e => ⟨d, by simpa [-List.map_map, -wrd] using e.symm, h.no⟩⟩⟩
theorem dp_lst {k : Nat} {d : D} (h : Dp k d) : Dp (k + 1) (.lst [d]) := ⟨by simp [-List.map_map, -wrd, h.t], by simp [-List.map_map, -wrd, h.w], by simp [-List.map_map, -wrd, h.s], by have := h.l; simp only [wt, wtL]; omega, .inr ⟨by simp [-List.map_map, -wrd], fun xs e => by simp [-List.map_map, -wrd] at e⟩⟩
theorem dp_dct {k : Nat} {d : D} (h : Dp k d) : Dp (k + 1) (.dct [(.int 0, d)]) := ⟨by simp [-List.map_map, -wrd, dat, datK, h.t], by simp [-List.map_map, -wrd, h.w], by simp [-List.map_map, -wrd, smI, smIK, h.s], by have := h.l; simp only [wt, wtK]; omega, .inr ⟨by simp [-List.map_map, -wrd], fun xs e => by simp [-List.map_map, -wrd] at e⟩⟩
theorem law_deep_ok {h : List D} (hh : Hok h) : ∃ d k h', F__law_deep [.obj 0] [h] = .ok d [h'] ∧ k < 30 ∧ Dp k d ∧ Hok h' := by
  obtain ⟨r2, h2, e2, r20, r21, k2⟩ := law_draw_ok hh (many := 30) (by omega) (by omega)
  obtain ⟨t, rfl⟩ : ∃ t : Nat, r2 = t := ⟨r2.toNat, by omega⟩
  obtain ⟨e', s', f1, d, h', rfl, f2, f3, f4⟩ := sFor_run (st := [h]) (st1 := [h2]) (env := (env0 [.obj 0]).put 1 false (.tup [.str "?!"])) (it := iRng1S (eFn F__law_draw (lCons (eVar 0) (lCons (eC (.int 30)) lNil)))) (g := gNm 2)
    (b := sSet 1 (eFn F__law_some (lCons (eVar 0) (lCons (eLst (lCons (eTup (lCons (eVar 1) lNil)) (lCons (eLst (lCons (eVar 1) lNil)) (lCons (eDct1 (eC (.int 0)) (eVar 1)) lNil)))) lNil))))
    (I := fun i e s => ∃ d h', s = [h'] ∧ Hok h' ∧ (e 0 = some (false, .obj 0) ∧ e 1 = some (false, d)) ∧ Dp i d) ((List.range t).map fun i => .int (i : Nat))
    (iRng_eq (Eq.trans (fn2 (eVar_eq (d := .obj 0) (by simp [-List.map_map, -wrd])) (eC_eq (d := .int 30))) e2) (by omega)) ⟨_, h2, rfl, k2, ⟨by simp [-List.map_map, -wrd], by simp [-List.map_map, -wrd]⟩, dp_zero⟩ (by
      rintro i x e s hd ⟨d, h', rfl, hk, ⟨g0, g1⟩, dp⟩
      obtain ⟨y, h3, c1, c2, c3⟩ := law_some_ok hk (xs := [.tup [d], .lst [d], .dct [(.int 0, d)]]) (by simp [-List.map_map, -wrd]) (by simp [-List.map_map, -wrd])
      refine ⟨_, ((e.put 2 false x).put 1 false y), [h3], rfl, sSet_eq (Eq.trans (fn2 (eVar_eq (d := .obj 0) (by simp [-List.map_map, -wrd, g0])) (y := .lst [.tup [d], .lst [d], .dct [(.int 0, d)]]) (by simp [-List.map_map, -wrd, g1, eDct1, dct1, keyD])) c1), y, h3, rfl, c3, ⟨by simp [-List.map_map, -wrd, g0], by simp [-List.map_map, -wrd]⟩, ?_⟩
      simp only [List.mem_cons, List.not_mem_nil, or_false] at c2
      rcases c2 with rfl | rfl | rfl
      · exact dp_tup dp
      · exact dp_lst dp
      · exact dp_dct dp)
  rw [List.length_map, List.length_range] at f4
  refine ⟨d, t, h', ?_, by omega, f4, f2⟩
  refine callS_rt ?_
  unfold M__law_deep
  rw [sSeq_eq (sSet_eq (d := .tup [.str "?!"]) (st1 := [h]) (by simp [-List.map_map, -wrd])), sSeq_eq f1]
  exact sRet_eq (eVar_eq f3.2)
theorem Dp.rok {k : Nat} {d : D} (h : Dp k d) (hk : k < 30) : Rok d := ⟨h.w, dat_le h.t (by omega), h.s, by have := h.l; exact toLine (by omega)⟩
theorem Dp.thg {k : Nat} {d : D} (h : Dp k d) (hk : k < 30) : Thg d := ⟨dat_le h.t (by omega), fun x y r e => by
  rcases h.f with z | z
  · rw [z] at e; simp [-List.map_map, -wrd] at e
  · obtain ⟨w, hw, _⟩ := z.2 _ e
    simp [-List.map_map, -wrd] at hw⟩
/-! ### repr of what is told -/
theorem wtL_ints (m : List Int) : wtL (m.map .int) = 22 * m.length := by
  induction m with
  | nil => rfl
  | cons x m ih => simp only [List.map_cons, wtL, wt, ih, List.length_cons]; omega
theorem rok_tI {m : List Int} (h : ∀ x ∈ m, -1000000 < x ∧ x < 1000000) (hl : m.length ≤ 1000) : Rok (tI m) := by
  refine ⟨by simp [-List.map_map, -wrd, tI], by simp [-List.map_map, -wrd], ?_, ?_⟩
  · have e : (2 : Int) ^ 62 = 4611686018427387904 := by decide
    simp only [tI, smI, smIL_all, List.all_map, List.all_eq_true, Function.comp, decide_eq_true_eq, e]
    intro x hx
    have := h x hx
    omega
  · simp only [tI, wt, wtL_ints]
    exact toLine (by omega)
theorem rok_int {i : Int} (h : -1000000 < i ∧ i < 1000000) : Rok (.int i) := by
  refine ⟨by simp [-List.map_map, -wrd], by simp [-List.map_map, -wrd], ?_, by simp only [wt]; exact toLine (by omega)⟩
  have e : (2 : Int) ^ 62 = 4611686018427387904 := by decide
  simp only [smI, decide_eq_true_eq, e]
  omega
theorem rok_non : Rok .non := ⟨by simp [-List.map_map, -wrd], by simp [-List.map_map, -wrd], by simp [-List.map_map, -wrd], by simp only [wt]; exact toLine (by omega)⟩
theorem rok_bl {b : Bool} : Rok (.bl b) := ⟨by simp [-List.map_map, -wrd], by simp [-List.map_map, -wrd], by simp [-List.map_map, -wrd], by simp only [wt]; exact toLine (by omega)⟩
end Lw88


set_option Elab.async false
set_option linter.all false
set_option maxRecDepth 100000
set_option maxHeartbeats 2000000
namespace Lw88
open PySem PySem.Spec L2 Sm
/-- small pieces -/
structure Rk (d : D) : Prop where
  w : wrd d = true
  t : dat 50 d = true
  s : smI d = true
  l : wt d ≤ 10000
theorem rk_tup {xs : List D} (h : ∀ x ∈ xs, Rk x) (hl : xs.length ≤ 8) : Rok (.tup xs) := by
  refine ⟨by simp [-List.map_map, -wrd]; exact fun x hx => (h x hx).w, ?_, by simp [-List.map_map, -wrd, smI]; exact fun x hx => (h x hx).s, ?_⟩
  · rw [dat_tup60, List.all_eq_true]
    exact fun x hx => dat_le (h x hx).t (by omega)
  · have := wtL_le (B := 10000) xs fun x hx => (h x hx).l
    simp only [wt]
    refine toLine ?_
    have h2 : (10000 + 2) * xs.length ≤ (10000 + 2) * 8 := Nat.mul_le_mul_left _ hl
    omega
theorem rk_lst {xs : List D} (h : ∀ x ∈ xs, Rk x) (hl : xs.length ≤ 8) : Rok (.lst xs) := by
  refine ⟨by simp [-List.map_map, -wrd]; exact fun x hx => (h x hx).w, ?_, by simp [-List.map_map, -wrd, smI]; exact fun x hx => (h x hx).s, ?_⟩
  · rw [dat_lst60, List.all_eq_true]
    exact fun x hx => dat_le (h x hx).t (by omega)
  · have := wtL_le (B := 10000) xs fun x hx => (h x hx).l
    simp only [wt]
    refine toLine ?_
    have h2 : (10000 + 2) * xs.length ≤ (10000 + 2) * 8 := Nat.mul_le_mul_left _ hl
    omega
theorem rk_int {i : Int} (h : -1000000 < i ∧ i < 1000000) : Rk (.int i) := by
  refine ⟨by simp [-List.map_map, -wrd], by simp [-List.map_map, -wrd], ?_, by simp only [wt]; omega⟩
  have e : (2 : Int) ^ 62 = 4611686018427387904 := by decide
  simp only [smI, decide_eq_true_eq, e]
  omega
theorem rk_tI {m : List Int} (h : ∀ x ∈ m, -1000000 < x ∧ x < 1000000) (hl : m.length ≤ 100) : Rk (tI m) := by
  refine ⟨by simp [-List.map_map, -wrd, tI], dat_tI (n := 49), ?_, ?_⟩
  · have e : (2 : Int) ^ 62 = 4611686018427387904 := by decide
    simp only [tI, smI, smIL_all, List.all_map, List.all_eq_true, Function.comp, decide_eq_true_eq, e]
    intro x hx
    have := h x hx
    omega
  · simp only [tI, wt, wtL_ints]
    omega
theorem rk_lI {m : List Int} (h : ∀ x ∈ m, -1000000 < x ∧ x < 1000000) (hl : m.length ≤ 100) : Rk (.lst (m.map .int)) := by
  refine ⟨by simp [-List.map_map, -wrd], by rw [dat_lst (n := 49)]; simp [-List.map_map, -wrd], ?_, ?_⟩
  · have e : (2 : Int) ^ 62 = 4611686018427387904 := by decide
    simp only [smI, smIL_all, List.all_map, List.all_eq_true, Function.comp, decide_eq_true_eq, e]
    intro x hx
    have := h x hx
    omega
  · simp only [wt, wtL_ints]
    omega
theorem rk_bl {b : Bool} : Rk (.bl b) := ⟨by simp [-List.map_map, -wrd], by simp [-List.map_map, -wrd], by simp [-List.map_map, -wrd], by simp only [wt]; omega⟩
theorem rk_odd : Rk (.str "odd") := ⟨word_odd, by simp [-List.map_map, -wrd], by simp [-List.map_map, -wrd], by decide +kernel⟩
theorem rk_right : Rk (.str "right") := ⟨word_right, by simp [-List.map_map, -wrd], by simp [-List.map_map, -wrd], by decide +kernel⟩
theorem rk_mended : Rk (.str "mended") := ⟨word_mended, by simp [-List.map_map, -wrd], by simp [-List.map_map, -wrd], by decide +kernel⟩
theorem rk_doubt : Rk (.str "doubt") := ⟨word_doubt, by simp [-List.map_map, -wrd], by simp [-List.map_map, -wrd], by decide +kernel⟩
theorem wtL_ge : ∀ xs : List D, 2 * xs.length ≤ wtL xs
  | [] => by simp [-List.map_map, -wrd, wtL]
  | x :: xs => by have := wtL_ge xs; simp only [wtL, List.length_cons]; omega
theorem Sm_Rok_thg {d : D} (h : Rok d) : Thg d := ⟨h.t, fun x y r e ys ey => by
  have := h.l
  subst ey
  rw [e] at this
  simp only [wt, wtL] at this
  have g := wtL_ge ys
  have : ys.length ≤ wtL ys := by omega
  omega⟩
theorem mok_small {n : Nat} {m : List Int} (h : Mok n m) (hn : n ≤ 8) : (∀ x ∈ m, -1000000 < x ∧ x < 1000000) ∧ m.length ≤ 100 :=
  ⟨fun x hx => by rcases h.bit x hx with z | z <;> omega, by rw [h.len]; omega⟩
theorem odd_small {n : Nat} {L : List (List Int)} {m : List Int} (h : Gok n L) : (∀ x ∈ oddL L m, -1000000 < x ∧ x < 1000000) ∧ (oddL L m).length ≤ 100 := by
  have hf := h.few
  obtain ⟨h1, h2⟩ := oddL_up (L := L) (m := m) 0 (fun p => par m p.1 == 1)
  refine ⟨fun x hx => ?_, ?_⟩
  · have := h2 x hx
    omega
  · unfold oddL
    rw [List.length_map]
    have := List.length_filter_le (fun p => par m p.1 == 1) L.zipIdx
    rw [List.length_zipIdx] at this
    omega
theorem first_parts {n : Nat} {L : List (List Int)} {m : List Int} (h : Gok n L) : ∃ fx, firstD L m = .tup fx ∧ (∀ x ∈ fx, Rk x) ∧ 1 ≤ fx.length ∧ fx.length ≤ 2 := by
  obtain ⟨a, b⟩ := odd_small (m := m) h
  unfold firstD
  split
  · refine ⟨_, rfl, fun x hx => ?_, by simp [-List.map_map, -wrd], by simp [-List.map_map, -wrd]⟩
    simp only [List.mem_cons, List.not_mem_nil, or_false] at hx
    rcases hx with rfl | rfl
    · exact rk_odd
    · exact rk_tI a b
  · refine ⟨_, rfl, fun x hx => ?_, by simp [-List.map_map, -wrd], by simp [-List.map_map, -wrd]⟩
    simp only [List.mem_cons, List.not_mem_nil, or_false] at hx
    subst hx
    exact rk_right
theorem near_cons {n : Nat} {L : List (List Int)} {m : List Int} : ∃ o r, near n L m = o :: r ∧ Mok n o := by
  have ⟨o, ho, hl⟩ : ∃ o ∈ rightL n L, off o m = least n L m := by
    unfold least
    obtain ⟨xs, hc, hx⟩ := rightL_cons n L
    rw [hc]
    have h1 := mn_mem (xs.map fun o => off o m) (off (List.replicate n 0) m)
    rcases List.mem_cons.mp h1 with z | z
    · exact ⟨_, List.mem_cons_self, z.symm⟩
    · obtain ⟨o, ho, e⟩ := List.mem_map.mp z
      exact ⟨o, List.mem_cons_of_mem _ ho, e⟩
  have hm : o ∈ near n L m := List.mem_filter.mpr ⟨ho, decide_eq_true hl⟩
  cases e : near n L m with
  | nil => rw [e] at hm; cases hm
  | cons a r =>
    exact ⟨a, r, rfl, rightL_mem (List.mem_filter.mp (show a ∈ near n L m by rw [e]; simp [-List.map_map, -wrd])).1⟩
theorem told_parts {n : Nat} {L : List (List Int)} {m : List Int} (h : Gok n L) : ∃ tx, toldD n L m = .tup tx ∧ (∀ x ∈ tx, Rk x) ∧ 1 ≤ tx.length ∧ tx.length ≤ 3 := by
  have h8 := h.n8
  obtain ⟨o, r, ho, hm⟩ := near_cons (n := n) (L := L) (m := m)
  obtain ⟨a, b⟩ := mok_small hm h8
  have lo := least_ok (n := n) (L := L) (m := m)
  have nl : (near n L m).length ≤ 256 := Nat.le_trans (List.length_filter_le _ _) (rightL_le h8)
  unfold toldD
  split
  · refine ⟨_, rfl, fun x hx => ?_, by simp [-List.map_map, -wrd], by simp [-List.map_map, -wrd]⟩
    simp only [List.mem_cons, List.not_mem_nil, or_false] at hx
    rcases hx with rfl | rfl
    · exact rk_mended
    · rw [ho]; exact rk_tI a b
  · refine ⟨_, rfl, fun x hx => ?_, by simp [-List.map_map, -wrd], by simp [-List.map_map, -wrd]⟩
    simp only [List.mem_cons, List.not_mem_nil, or_false] at hx
    rcases hx with rfl | rfl | rfl
    · exact rk_doubt
    · exact rk_int (by omega)
    · exact rk_int (by omega)
theorem near_swap {n : Nat} {L : List (List Int)} {m : List Int} {st : Store} {env : En} (h : Gok n L) (hm : Mok n m) (e2 : env 2 = some (false, tI m)) (e3 : env 3 = some (false, .lst ((rightL n L).map tI))) :
    eLc [11, 12] (iSeq (eVar 3)) (gNm 12) tYesS (eFn F__law_off (lCons (eVar 2) (lCons (eVar 12) lNil))) env st = .ok (.lst (((rightL n L).map fun o => off o m).map .int)) st := by
  rw [eLc_map (st1 := st) (rightL n L) tI (fun o => .int (off o m))]
  · simp [-List.map_map, -wrd, List.map_map, Function.comp_def]
  · exact iSeq_eq (eVar_eq e3) (by simp [-List.map_map, -wrd])
  · exact toLine (Nat.le_trans (rightL_le h.n8) (by decide))
  · exact fun e => rfl
  · intro o ho
    refine ⟨_, rfl, ?_⟩
    rw [fn2 (eVar_eq (d := tI m) (by simp [-List.map_map, -wrd, e2])) (eVar_eq (d := tI o) (by simp [-List.map_map, -wrd])), law_off_eq (by rw [hm.len]; have := h.n8; omega), off_comm]
end Lw88


set_option Elab.async false
set_option linter.all false
set_option maxRecDepth 100000
set_option maxHeartbeats 2000000
namespace Lw88
open PySem PySem.Spec L2 Sm
open Classical in
theorem body_ok {n : Nat} {L : List (List Int)} {m : List Int} {d : D} {e : En} {st : Store} (h : Gok n L) (hm : Mok n m) (hd : Rok d) (hf : Rok (firstD L m)) (ht : Rok (toldD n L m))
    (e1 : e 1 = some (false, gD n L)) (e2 : e 2 = some (false, tI m)) (e5 : e 5 = some (false, firstD L m)) (e8 : e 8 = some (false, toldD n L m)) (e10 : e 10 = some (false, d)) :
    (sSeq (sIf (tNot' (tV (eFn F__law_flag (lCons (eFn F_is_right_or_odd (lCons (eVar 1) (lCons (eVar 2) (lCons (eVar 10) lNil)))) (lCons (eBin (pur eqD) (eFn (g1 fun d => lift (repD d)) (lCons (eVar 10) lNil)) (eFn (g1 fun d => lift (repD d)) (lCons (eVar 5) lNil))) lNil))))) (sRet (eC (.bl false))) sNil) (sIf (tNot' (tV (eFn F__law_flag (lCons (eFn F_is_mended_or_doubt (lCons (eVar 1) (lCons (eVar 2) (lCons (eVar 10) lNil)))) (lCons (eBin (pur eqD) (eFn (g1 fun d => lift (repD d)) (lCons (eVar 10) lNil)) (eFn (g1 fun d => lift (repD d)) (lCons (eVar 8) lNil))) lNil))))) (sRet (eC (.bl false))) sNil)) e st = .ok (.nx e) st := by
  have th := Sm_Rok_thg hd
  have a1 : eFn F__law_flag (lCons (eFn F_is_right_or_odd (lCons (eVar 1) (lCons (eVar 2) (lCons (eVar 10) lNil)))) (lCons (eBin (pur eqD) (eFn (g1 fun d => lift (repD d)) (lCons (eVar 10) lNil)) (eFn (g1 fun d => lift (repD d)) (lCons (eVar 5) lNil))) lNil)) e st = .ok (.bl true) st := by
    rw [fn2 (Eq.trans (fn3 (eVar_eq e1) (eVar_eq e2) (eVar_eq e10)) (is_right_or_odd_eq h hm th)) (eBin_eq (g1_eq (eVar_eq e10) (rep_ok hd)) (g1_eq (eVar_eq e5) (rep_ok hf)) (eqD_rep hd hf)), flag_eq]
    simp [-List.map_map, -wrd]
  have a2 : eFn F__law_flag (lCons (eFn F_is_mended_or_doubt (lCons (eVar 1) (lCons (eVar 2) (lCons (eVar 10) lNil)))) (lCons (eBin (pur eqD) (eFn (g1 fun d => lift (repD d)) (lCons (eVar 10) lNil)) (eFn (g1 fun d => lift (repD d)) (lCons (eVar 8) lNil))) lNil)) e st = .ok (.bl true) st := by
    rw [fn2 (Eq.trans (fn3 (eVar_eq e1) (eVar_eq e2) (eVar_eq e10)) (is_mended_or_doubt_eq h hm th)) (eBin_eq (g1_eq (eVar_eq e10) (rep_ok hd)) (g1_eq (eVar_eq e8) (rep_ok ht)) (eqD_rep hd ht)), flag_eq]
    simp [-List.map_map, -wrd]
  rw [sSeq_eq (sIf_no (tNot_eq (b := true) (tV_eq a1)))]
  exact sIf_no (tNot_eq (b := true) (tV_eq a2))
theorem rep_ne {a b : Ex} {env : En} {st : Store} {x : D} (ha : a env st = .ok x st) (hb : b env st = .ok x st) (h : Rok x) : tV (eBin (pur neD) (eFn (g1 fun d => lift (repD d)) (lCons a lNil)) (eFn (g1 fun d => lift (repD d)) (lCons b lNil))) env st = .ok false st :=
  tV_eq (eBin_eq (g1_eq ha (rep_ok h)) (g1_eq hb (rep_ok h)) (by simp [-List.map_map, -wrd]))
theorem told_right_ok {n : Nat} {L : List (List Int)} {m : List Int} {h0 : List D} (h : Gok n L) (hm : Mok n m) (hh : Hok h0) : ∃ h', F__law_told_right [.obj 0, gD n L, tI m, .lst ((rightL n L).map tI)] [h0] = .ok (.bl true) [h'] ∧ Hok h' := by
  have h8 := h.n8
  have hle := rightL_le (L := L) h8
  obtain ⟨fx, hfx, fk, f1, f2⟩ := first_parts (m := m) h
  obtain ⟨tx, htx, tk, t1, t2⟩ := told_parts (m := m) h
  have hf : Rok (firstD L m) := by rw [hfx]; exact rk_tup fk (by omega)
  have ht : Rok (toldD n L m) := by rw [htx]; exact rk_tup tk (by omega)
  obtain ⟨o, r, hno, hmo⟩ := near_cons (n := n) (L := L) (m := m)
  obtain ⟨xs, hc, _⟩ := rightL_cons n L
  obtain ⟨dd, k, h', hdeep, hk, dp, hk'⟩ := law_deep_ok hh
  have lo := least_ok (n := n) (L := L) (m := m)
  obtain ⟨ms, ml⟩ := mok_small hm h8
  obtain ⟨os, ol⟩ := mok_small hmo h8
  obtain ⟨qs, ql⟩ := odd_small (m := m) h
  let W1 : List D := [firstD L m, toldD n L m, .lst fx, .lst tx, .tup (fx ++ [.int 0]), .tup (tx.take 1), .tup [.str "right"], .tup [.str "odd", .tup []]]
  let W2 : List D := [.tup [.str "odd", .tup [.int 0]], .tup [.str "mended", tI m], .non, .tup []]
  let W3 : List D := [.tup [.str "doubt", .int (least n L m), .int 1], .tup [.str "doubt", .int (least n L m), .int 2], .tup [.str "doubt", .int 1, .int 2], .tup [.str "mended", .lst (o.map .int)]]
  let W4 : List D := [.tup [.str "odd", .lst ((oddL L m).map .int)], .tup [.str "doubt", .bl true, .int 2]]
  have hW : ∀ d ∈ ((((W1 ++ W2) ++ W3) ++ W4) ++ [dd]), Rok d := by
    intro d hd
    simp only [W1, W2, W3, W4, List.cons_append, List.nil_append, List.mem_cons, List.not_mem_nil, or_false] at hd
    have i1 : ∀ {i : Int}, -1000000 < i → i < 1000000 → Rk (.int i) := fun a b => rk_int ⟨a, b⟩
    have one : ∀ {a : D}, Rk a → Rok (.tup [a]) := fun {a} ha => rk_tup (fun x hx => by simp [-List.map_map, -wrd] at hx; rw [hx]; exact ha) (by simp [-List.map_map, -wrd])
    have two : ∀ {a b : D}, Rk a → Rk b → Rok (.tup [a, b]) := fun {a b} ha hb => rk_tup (fun x hx => by simp [-List.map_map, -wrd] at hx; rcases hx with z | z <;> rw [z] <;> assumption) (by simp [-List.map_map, -wrd])
    have thr : ∀ {a b c : D}, Rk a → Rk b → Rk c → Rok (.tup [a, b, c]) := fun {a b c} ha hb hc => rk_tup (fun x hx => by simp [-List.map_map, -wrd] at hx; rcases hx with z | z | z <;> rw [z] <;> assumption) (by simp [-List.map_map, -wrd])
    rcases hd with rfl | rfl | rfl | rfl | rfl | rfl | rfl | rfl | rfl | rfl | rfl | rfl | rfl | rfl | rfl | rfl | rfl | rfl | rfl
    · exact hf
    · exact ht
    · exact rk_lst fk (by omega)
    · exact rk_lst tk (by omega)
    · refine rk_tup (fun x hx => ?_) (by simp [-List.map_map, -wrd]; omega)
      rcases List.mem_append.mp hx with z | z
      · exact fk x z
      · simp [-List.map_map, -wrd] at z; rw [z]; exact i1 (by omega) (by omega)
    · exact rk_tup (fun x hx => tk x (List.mem_of_mem_take hx)) (by rw [List.length_take]; omega)
    · exact one rk_right
    · exact two rk_odd (rk_tI (m := []) (fun x hx => by cases hx) (by simp [-List.map_map, -wrd]))
    · exact two rk_odd (rk_tI (m := [0]) (fun x hx => by simp [-List.map_map, -wrd] at hx; omega) (by simp [-List.map_map, -wrd]))
    · exact two rk_mended (rk_tI ms ml)
    · exact rok_non
    · exact rk_tup (fun x hx => by cases hx) (by simp [-List.map_map, -wrd])
    · exact thr rk_doubt (i1 (by omega) (by omega)) (i1 (by omega) (by omega))
    · exact thr rk_doubt (i1 (by omega) (by omega)) (i1 (by omega) (by omega))
    · exact thr rk_doubt (i1 (by omega) (by omega)) (i1 (by omega) (by omega))
    · exact two rk_mended (rk_lI os ol)
    · exact two rk_odd (rk_lI qs ql)
    · exact thr rk_doubt rk_bl (i1 (by omega) (by omega))
    · exact dp.rok hk
  let E0 : En := env0 [.obj 0, gD n L, tI m, .lst ((rightL n L).map tI)]
  let E4 : En := E0.put 4 false (.lst ((oddL L m).map .int))
  let E5 : En := E4.put 5 false (firstD L m)
  let E6 : En := E5.put 6 false (.int (least n L m))
  let E7 : En := E6.put 7 false (.lst ((near n L m).map tI))
  let E8 : En := E7.put 8 false (toldD n L m)
  refine ⟨h', callS_rt ?_, hk'⟩
  unfold M__law_told_right
  rw [sSeq_eq (e1 := E4) (st1 := [h0]) (sSet_eq (Eq.trans (fn2 (eVar_eq (d := gD n L) (by simp [-List.map_map, -wrd])) (eVar_eq (d := tI m) (by simp [-List.map_map, -wrd]))) (lodd_ok h hm)))]
  rw [sSeq_eq (e1 := E5) (st1 := [h0]) (sSet_eq (by
    rw [eIf_eq (c := decide (0 < (oddL L m).length)) (st1 := [h0]) (tV_eq (eBin_eq (y := .int 0) (g1_eq (x := .lst ((oddL L m).map .int)) (y := .int ((oddL L m).length : Nat)) (eVar_eq (by simp [-List.map_map, -wrd, E4])) (by simp [-List.map_map, -wrd])) eC_eq (by rw [gtD_int]; congr 2; rw [Bool.eq_iff_iff]; simp only [decide_eq_true_eq]; omega)))]
    unfold firstD
    by_cases c : 0 < (oddL L m).length
    · rw [if_pos (decide_eq_true c), if_pos c]
      exact eTup_eq (lCons_eq eC_eq (lCons_eq (g1_eq (eVar_eq (d := .lst ((oddL L m).map .int)) (by simp [-List.map_map, -wrd, E4])) (by simp [-List.map_map, -wrd, tI])) lNil_eq))
    · rw [if_neg (by simpa [-List.map_map, -wrd] using c), if_neg c]
      exact eTup_eq (lCons_eq eC_eq lNil_eq)))]
  have e6 : E5 2 = some (false, tI m) := by simp [-List.map_map, -wrd, E5, E4, E0]
  have e6' : E5 3 = some (false, .lst ((rightL n L).map tI)) := by simp [-List.map_map, -wrd, E5, E4, E0]
  rw [sSeq_eq (e1 := E6) (st1 := [h0]) (sSet_eq (g1_eq (near_swap h hm e6 e6') (by
    have := minD_ints (off (List.replicate n 0) m) (xs.map fun o => off o m)
    rw [hc, List.map_cons, this, least, hc])))]
  rw [sSeq_eq (e1 := E7) (st1 := [h0]) (sSet_eq (by
    rw [eLc_pure (st1 := [h0]) (rightL n L) tI (fun o => decide (off o m = least n L m)) tI]
    · rfl
    · exact iSeq_eq (eVar_eq (d := .lst ((rightL n L).map tI)) (by simp [-List.map_map, -wrd, E6, E5, E4, E0])) (by simp [-List.map_map, -wrd])
    · exact toLine (by omega)
    · intro o ho
      refine ⟨_, rfl, ?_, fun _ => by simp [-List.map_map, -wrd]⟩
      refine tV_eq (eBin_eq (Eq.trans (fn2 (eVar_eq (d := tI m) (by simp [-List.map_map, -wrd, E6, E5, E4, E0])) (eVar_eq (d := tI o) (by simp [-List.map_map, -wrd]))) (law_off_eq (by rw [hm.len]; omega))) (eVar_eq (d := .int (least n L m)) (by simp [-List.map_map, -wrd, E6])) ?_)
      rw [eqD_int, off_comm]))]
  rw [sSeq_eq (e1 := E8) (st1 := [h0]) (sSet_eq (by
    rw [eIf_eq (c := decide ((near n L m).length = 1)) (st1 := [h0]) (tV_eq (eBin_eq (y := .int 1) (g1_eq (x := .lst ((near n L m).map tI)) (y := .int ((near n L m).length : Nat)) (eVar_eq (by simp [-List.map_map, -wrd, E7])) (by simp [-List.map_map, -wrd])) eC_eq (by rw [eqD_int]; congr 2; rw [Bool.eq_iff_iff]; simp only [decide_eq_true_eq]; omega)))]
    unfold toldD
    by_cases c : (near n L m).length = 1
    · rw [if_pos (decide_eq_true c), if_pos c]
      have : eBin ixD (eVar 7) (eC (.int 0)) E7 [h0] = .ok (tI ((near n L m).headD [])) [h0] := by simp [-List.map_map, -wrd, E7, hno]
      exact eTup_eq (lCons_eq eC_eq (lCons_eq this lNil_eq))
    · rw [if_neg (by simpa [-List.map_map, -wrd] using c), if_neg c]
      exact eTup_eq (lCons_eq eC_eq (lCons_eq (eVar_eq (by simp [-List.map_map, -wrd, E7, E6])) (lCons_eq (g1_eq (x := .lst ((near n L m).map tI)) (eVar_eq (by simp [-List.map_map, -wrd, E7])) (by simp [-List.map_map, -wrd])) lNil_eq)))))]
  have g1' : E8 1 = some (false, gD n L) := by simp [-List.map_map, -wrd, E8, E7, E6, E5, E4, E0]
  have g2' : E8 2 = some (false, tI m) := by simp [-List.map_map, -wrd, E8, E7, E6, E5, E4, E0]
  have g5 : E8 5 = some (false, firstD L m) := by simp [-List.map_map, -wrd, E8, E7, E6, E5]
  have g8 : E8 8 = some (false, toldD n L m) := by simp [-List.map_map, -wrd, E8]
  have g4 : E8 4 = some (false, .lst ((oddL L m).map .int)) := by simp [-List.map_map, -wrd, E8, E7, E6, E5, E4]
  have g6 : E8 6 = some (false, .int (least n L m)) := by simp [-List.map_map, -wrd, E8, E7, E6]
  have g7 : E8 7 = some (false, .lst ((near n L m).map tI)) := by simp [-List.map_map, -wrd, E8, E7]
  have g0 : E8 0 = some (false, .obj 0) := by simp [-List.map_map, -wrd, E8, E7, E6, E5, E4, E0]
  rw [sSeq_eq (sIf_no (Eq.trans (tOr_no (rep_ne (Eq.trans (fn2 (eVar_eq g1') (eVar_eq g2')) (right_or_odd_eq h hm)) (eVar_eq g5) hf)) (rep_ne (Eq.trans (fn2 (eVar_eq g1') (eVar_eq g2')) (mended_or_doubt_eq h hm)) (eVar_eq g8) ht)))]
  generalize E8 = E at g0 g1' g2' g4 g5 g6 g7 g8 ⊢
  have hneq : near n L m = o :: r := hno
  rw [sSeq_eq (e1 := E.put 9 false (.lst W1)) (st1 := [h0]) (sSet_eq (eLst_eq (lCons_eq (eVar_eq g5) (lCons_eq (eVar_eq g8) (lCons_eq (g1_eq (eVar_eq g5) (by rw [hfx]; simp [-List.map_map, -wrd])) (lCons_eq (g1_eq (eVar_eq g8) (by rw [htx]; simp [-List.map_map, -wrd])) (lCons_eq (eBin_eq (z := .tup (fx ++ [.int 0])) (eVar_eq g5) (eTup_eq (lCons_eq eC_eq lNil_eq)) (by rw [hfx, addA_tup (by simp [-List.map_map, -wrd]; omega)])) (lCons_eq (d := .tup (tx.take 1)) (by
      have : slA (.tup tx) none (some 1) = some (.tup (tx.take 1)) := by
        show some (D.tup (cut tx none (some ((1 : Nat) : Int)))) = _
        rw [cut_to]
      simp [-List.map_map, -wrd, eSl, pAt, pNo, g8, htx, this]) (lCons_eq (eTup_eq (lCons_eq eC_eq lNil_eq)) (lCons_eq (eTup_eq (lCons_eq eC_eq (lCons_eq (eTup_eq lNil_eq) lNil_eq))) lNil_eq))))))))))]
  rw [sSeq_eq (e1 := (E.put 9 false (.lst W1)).put 9 false (.lst (W1 ++ W2))) (st1 := [h0]) (sSet_eq (eBin_eq (eVar_eq (d := .lst W1) (by simp [-List.map_map, -wrd])) (eLst_eq (ds := W2) (lCons_eq (eTup_eq (lCons_eq eC_eq (lCons_eq (eTup_eq (lCons_eq eC_eq lNil_eq)) lNil_eq))) (lCons_eq (eTup_eq (lCons_eq eC_eq (lCons_eq (eVar_eq (by simp [-List.map_map, -wrd, g2'])) lNil_eq))) (lCons_eq eC_eq (lCons_eq (eTup_eq lNil_eq) lNil_eq))))) (addA_lst (by simp [-List.map_map, -wrd, W1, W2]))))]
  rw [sSeq_eq (e1 := ((E.put 9 false (.lst W1)).put 9 false (.lst (W1 ++ W2))).put 9 false (.lst (W1 ++ W2 ++ W3))) (st1 := [h0]) (sSet_eq (eBin_eq (eVar_eq (d := .lst (W1 ++ W2)) (by simp [-List.map_map, -wrd])) (eLst_eq (ds := W3) (lCons_eq (eTup_eq (lCons_eq eC_eq (lCons_eq (eVar_eq (by simp [-List.map_map, -wrd, g6])) (lCons_eq eC_eq lNil_eq)))) (lCons_eq (eTup_eq (lCons_eq eC_eq (lCons_eq (eVar_eq (by simp [-List.map_map, -wrd, g6])) (lCons_eq eC_eq lNil_eq)))) (lCons_eq (eTup_eq (lCons_eq eC_eq (lCons_eq eC_eq (lCons_eq eC_eq lNil_eq)))) (lCons_eq (eTup_eq (lCons_eq eC_eq (lCons_eq (g1_eq (x := tI o) (by simp [-List.map_map, -wrd, g7, hneq]) (by simp [-List.map_map, -wrd, tI])) lNil_eq))) lNil_eq))))) (addA_lst (by simp [-List.map_map, -wrd, W1, W2, W3]))))]
  rw [sSeq_eq (e1 := (((E.put 9 false (.lst W1)).put 9 false (.lst (W1 ++ W2))).put 9 false (.lst (W1 ++ W2 ++ W3))).put 9 false (.lst (W1 ++ W2 ++ W3 ++ W4))) (st1 := [h0]) (sSet_eq (eBin_eq (eVar_eq (d := .lst (W1 ++ W2 ++ W3)) (by simp [-List.map_map, -wrd])) (eLst_eq (ds := W4) (lCons_eq (eTup_eq (lCons_eq eC_eq (lCons_eq (g1_eq (x := .lst ((oddL L m).map .int)) (eVar_eq (by simp [-List.map_map, -wrd, g4])) (by simp [-List.map_map, -wrd])) lNil_eq))) (lCons_eq (eTup_eq (lCons_eq eC_eq (lCons_eq eC_eq (lCons_eq eC_eq lNil_eq)))) lNil_eq))) (addA_lst (by simp [-List.map_map, -wrd, W1, W2, W3, W4]))))]
  obtain ⟨e', s', j1, rfl, _⟩ := sFor_run (st := [h0]) (st1 := [h']) (env := (((E.put 9 false (.lst W1)).put 9 false (.lst (W1 ++ W2))).put 9 false (.lst (W1 ++ W2 ++ W3))).put 9 false (.lst (W1 ++ W2 ++ W3 ++ W4)))
    (it := iSeq (eBin (pur addA) (eVar 9) (eLst (lCons (eFn F__law_deep (lCons (eVar 0) lNil)) lNil)))) (g := gNm 10)
    (b := (sSeq (sIf (tNot' (tV (eFn F__law_flag (lCons (eFn F_is_right_or_odd (lCons (eVar 1) (lCons (eVar 2) (lCons (eVar 10) lNil)))) (lCons (eBin (pur eqD) (eFn (g1 fun d => lift (repD d)) (lCons (eVar 10) lNil)) (eFn (g1 fun d => lift (repD d)) (lCons (eVar 5) lNil))) lNil))))) (sRet (eC (.bl false))) sNil) (sIf (tNot' (tV (eFn F__law_flag (lCons (eFn F_is_mended_or_doubt (lCons (eVar 1) (lCons (eVar 2) (lCons (eVar 10) lNil)))) (lCons (eBin (pur eqD) (eFn (g1 fun d => lift (repD d)) (lCons (eVar 10) lNil)) (eFn (g1 fun d => lift (repD d)) (lCons (eVar 8) lNil))) lNil))))) (sRet (eC (.bl false))) sNil)))
    (I := fun i e s => s = [h'] ∧ e 1 = some (false, gD n L) ∧ e 2 = some (false, tI m) ∧ e 5 = some (false, firstD L m) ∧ e 8 = some (false, toldD n L m)) (W1 ++ W2 ++ W3 ++ W4 ++ [dd])
    (iSeq_eq (x := .lst (W1 ++ W2 ++ W3 ++ W4 ++ [dd])) (eBin_eq (eVar_eq (d := .lst (W1 ++ W2 ++ W3 ++ W4)) (by simp [-List.map_map, -wrd])) (eLst_eq (lCons_eq (Eq.trans (fn1 (eVar_eq (d := .obj 0) (by simp [-List.map_map, -wrd, g0]))) hdeep) lNil_eq)) (addA_lst (by simp [-List.map_map, -wrd, W1, W2, W3, W4]))) (by simp [-List.map_map, -wrd]))
    ⟨rfl, by simp [-List.map_map, -wrd, g1'], by simp [-List.map_map, -wrd, g2'], by simp [-List.map_map, -wrd, g5], by simp [-List.map_map, -wrd, g8]⟩ (by
      rintro i d e s hd ⟨rfl, k1, k2, k5, k8⟩
      have hd' := hW d (List.mem_of_getElem? hd)
      exact ⟨_, e.put 10 false d, [h'], rfl, body_ok h hm hd' hf ht (by simp [-List.map_map, -wrd, k1]) (by simp [-List.map_map, -wrd, k2]) (by simp [-List.map_map, -wrd, k5]) (by simp [-List.map_map, -wrd, k8]) (by simp [-List.map_map, -wrd]), rfl, by simp [-List.map_map, -wrd, k1], by simp [-List.map_map, -wrd, k2], by simp [-List.map_map, -wrd, k5], by simp [-List.map_map, -wrd, k8]⟩)
  rw [sSeq_eq j1]
  rfl
end Lw88


set_option Elab.async false
set_option linter.all false
set_option maxRecDepth 100000
set_option maxHeartbeats 2000000
namespace Lw88
open PySem PySem.Spec L2 Sm
theorem good_test {n : Nat} {L : List (List Int)} {m : List Int} {i j : Nat} {e : En} {st : Store} (h : Gok n L) (hm : Mok n m) (ei : e i = some (false, gD n L)) (ej : e j = some (false, tI m)) :
    tV (eBin (pur eqD) (eFn (g1 fun d => lift (lenD d)) (lCons (eFn F__law_odd (lCons (eVar i) (lCons (eVar j) lNil))) lNil)) (eC (.int 0))) e st = .ok (good L m) st := by
  refine tV_eq (eBin_eq (y := .int 0) (g1_eq (y := .int ((oddL L m).length : Nat)) (Eq.trans (fn2 (eVar_eq ei) (eVar_eq ej)) (lodd_ok h hm)) (by simp [-List.map_map, -wrd])) eC_eq ?_)
  rw [eqD_int, good]
  congr 2
  rw [Bool.eq_iff_iff]
  simp only [decide_eq_true_eq, beq_iff_eq]
  omega
theorem right_lc {n : Nat} {L : List (List Int)} {e : En} {st : Store} (h : Gok n L) (e1 : e 1 = some (false, gD n L)) (e4 : e 4 = some (false, .lst ((rows n).map tI))) :
    eLc [18, 5] (iSeq (eVar 4)) (gNm 5) (tV (eBin (pur eqD) (eFn (g1 fun d => lift (lenD d)) (lCons (eFn F__law_odd (lCons (eVar 1) (lCons (eVar 5) lNil))) lNil)) (eC (.int 0)))) (eVar 5) e st = .ok (.lst ((rightL n L).map tI)) st := by
  rw [eLc_pure (st1 := st) (rows n) tI (good L) tI]
  · rfl
  · exact iSeq_eq (eVar_eq e4) (by simp [-List.map_map, -wrd])
  · exact toLine (Nat.le_trans (rows_le h.n8) (by decide))
  · exact fun m hm => ⟨_, rfl, good_test h (mem_rows.mp hm) (by simp [-List.map_map, -wrd, e1]) (by simp [-List.map_map, -wrd]), fun _ => by simp [-List.map_map, -wrd]⟩
theorem fewer_lc {n : Nat} {L : List (List Int)} {e : En} {st : Store} (h : Gok n L) (e1 : e 11 = some (false, gD n L)) (e4 : e 4 = some (false, .lst ((rows n).map tI))) :
    eLc [18, 5] (iSeq (eVar 4)) (gNm 5) (tV (eBin (pur eqD) (eFn (g1 fun d => lift (lenD d)) (lCons (eFn F__law_odd (lCons (eVar 11) (lCons (eVar 5) lNil))) lNil)) (eC (.int 0)))) (eC (.int 1)) e st = .ok (.lst ((rightL n L).map fun _ => .int 1)) st := by
  rw [eLc_pure (st1 := st) (rows n) tI (good L) (fun _ => .int 1)]
  · rfl
  · exact iSeq_eq (eVar_eq e4) (by simp [-List.map_map, -wrd])
  · exact toLine (Nat.le_trans (rows_le h.n8) (by decide))
  · exact fun m hm => ⟨_, rfl, good_test h (mem_rows.mp hm) (by simp [-List.map_map, -wrd, e1]) (by simp [-List.map_map, -wrd]), fun _ => by simp [-List.map_map, -wrd]⟩
def needB : Sx := (sSeq (sSet 11 (eTup (lCons (eVar 2) (lCons (eBin (pur addA) (eSl slA (eVar 3) pNo (pAt (eVar 10))) (eSl slA (eVar 3) (pAt (eBin (pur addA) (eVar 10) (eC (.int 1)))) pNo)) lNil)))) (sExt 9 (eBin (pur mulL) (eLst (lCons (eVar 10) lNil)) (eFn (g1 fun d => lift (intD d)) (lCons (eBin (pur eqD) (eFn (g1 fun d => lift (lenD d)) (lCons (eLc [18, 5] (iSeq (eVar 4)) (gNm 5) (tV (eBin (pur eqD) (eFn (g1 fun d => lift (lenD d)) (lCons (eFn F__law_odd (lCons (eVar 11) (lCons (eVar 5) lNil))) lNil)) (eC (.int 0)))) (eC (.int 1))) lNil)) (eFn (g1 fun d => lift (lenD d)) (lCons (eVar 6) lNil))) lNil)))))
theorem mulL_1 {d : D} : mulL (.lst [d]) (.int 1) = some (.lst [d]) := by
  show (if -(2 ^ 63) ≤ (1 : Int) ∧ (1 : Int) < 2 ^ 63 ∧ [d].length * (1 : Int).toNat ≤ line then some (D.lst (List.replicate (1 : Int).toNat [d]).flatten) else none) = _
  rw [if_pos (by refine ⟨by decide, by decide, toLine (by simp [-List.map_map, -wrd])⟩)]
  simp [-List.map_map, -wrd]
theorem mulL_0 {d : D} : mulL (.lst [d]) (.int 0) = some (.lst []) := by
  show (if -(2 ^ 63) ≤ (0 : Int) ∧ (0 : Int) < 2 ^ 63 ∧ [d].length * (0 : Int).toNat ≤ line then some (D.lst (List.replicate (0 : Int).toNat [d]).flatten) else none) = _
  rw [if_pos (by refine ⟨by decide, by decide, toLine (by simp [-List.map_map, -wrd])⟩)]
  simp [-List.map_map, -wrd]
/-- what the loop keeps -/
def keep (S : List Nat) (e e' : En) : Prop := ∀ i, i ∉ S → e' i = e i
theorem need_loop {n : Nat} {L : List (List Int)} {e : En} {st : Store} (h : Gok n L) (e2 : e 2 = some (false, .int n)) (e3 : e 3 = some (false, .tup (L.map tI))) (e4 : e 4 = some (false, .lst ((rows n).map tI))) (e6 : e 6 = some (false, .lst ((rightL n L).map tI))) (e9 : e 9 = some (true, .lst [])) :
    ∃ e', sFor (iRng1S (eFn (g1 fun d => lift (lenD d)) (lCons (eVar 3) lNil))) (gNm 10) needB e st = .ok (.nx e') st ∧ e' 9 = some (true, .lst ((needL n L).map fun k => .int (k : Nat))) ∧ keep [9, 10, 11] e e' := by
  have hf := h.few
  obtain ⟨e', s', f1, rfl, f2, f3⟩ := sFor_run (st := st) (st1 := st) (env := e) (it := iRng1S (eFn (g1 fun d => lift (lenD d)) (lCons (eVar 3) lNil))) (g := gNm 10) (b := needB)
    (I := fun i e' s => s = st ∧ e' 9 = some (true, .lst (((List.range i).filter fun k => decide ((rightL n (less L k)).length = (rightL n L).length)).map fun k => .int (k : Nat))) ∧ keep [9, 10, 11] e e') ((List.range L.length).map fun i => .int (i : Nat))
    (iRng_eq (g1_eq (eVar_eq e3) (by simp [-List.map_map, -wrd])) (by omega)) ⟨rfl, by simpa [-List.map_map, -wrd] using e9, fun i _ => rfl⟩ (by
      rintro i d e' s hd ⟨rfl, g9, gk⟩
      have hd' : d = .int (i : Nat) ∧ i < L.length := by
        obtain ⟨hl, hd⟩ := List.getElem?_eq_some_iff.mp hd
        exact ⟨by simpa [-List.map_map, -wrd] using hd.symm, by simpa [-List.map_map, -wrd] using hl⟩
      obtain ⟨rfl, hi⟩ := hd'
      have k2 : e' 2 = some (false, .int n) := by rw [gk 2 (by simp [-List.map_map, -wrd])]; exact e2
      have k3 : e' 3 = some (false, .tup (L.map tI)) := by rw [gk 3 (by simp [-List.map_map, -wrd])]; exact e3
      have k4 : e' 4 = some (false, .lst ((rows n).map tI)) := by rw [gk 4 (by simp [-List.map_map, -wrd])]; exact e4
      have k6 : e' 6 = some (false, .lst ((rightL n L).map tI)) := by rw [gk 6 (by simp [-List.map_map, -wrd])]; exact e6
      let E : En := (e'.put 10 false (.int (i : Nat))).put 11 false (gD n (less L i))
      have s1 : sSet 11 (eTup (lCons (eVar 2) (lCons (eBin (pur addA) (eSl slA (eVar 3) pNo (pAt (eVar 10))) (eSl slA (eVar 3) (pAt (eBin (pur addA) (eVar 10) (eC (.int 1)))) pNo)) lNil))) (e'.put 10 false (.int (i : Nat))) s = .ok (.nx E) s :=
        sSet_eq (less_eq (x := i) h (by simp [-List.map_map, -wrd, k2]) (by simp [-List.map_map, -wrd, k3]) (by simp [-List.map_map, -wrd]))
      have hfl := fewer_lc (e := E) (st := s) (h.less i) (by simp [-List.map_map, -wrd, E]) (by simp [-List.map_map, -wrd, E, k4])
      have hb : eBin (pur eqD) (eFn (g1 fun d => lift (lenD d)) (lCons (eLc [18, 5] (iSeq (eVar 4)) (gNm 5) (tV (eBin (pur eqD) (eFn (g1 fun d => lift (lenD d)) (lCons (eFn F__law_odd (lCons (eVar 11) (lCons (eVar 5) lNil))) lNil)) (eC (.int 0)))) (eC (.int 1))) lNil)) (eFn (g1 fun d => lift (lenD d)) (lCons (eVar 6) lNil)) E s = .ok (.bl (decide ((rightL n (less L i)).length = (rightL n L).length))) s := by
        refine eBin_eq (g1_eq (y := .int ((rightL n (less L i)).length : Nat)) hfl (by simp [-List.map_map, -wrd])) (g1_eq (y := .int ((rightL n L).length : Nat)) (eVar_eq (d := .lst ((rightL n L).map tI)) (by simp [-List.map_map, -wrd, E, k6])) (by simp [-List.map_map, -wrd])) ?_
        rw [eqD_int]
        congr 2
        rw [Bool.eq_iff_iff]
        simp only [decide_eq_true_eq]
        omega
      have hlen : ((List.range i).filter fun k => decide ((rightL n (less L k)).length = (rightL n L).length)).length ≤ i := by
        have := List.length_filter_le (fun k => decide ((rightL n (less L k)).length = (rightL n L).length)) (List.range i)
        rw [List.length_range] at this
        exact this
      have hm := fun z => eBin_eq (z := z) (g := mulL) (st := s) (env := E) (eLst_eq (lCons_eq (eVar_eq (i := 10) (d := .int (i : Nat)) (by simp [-List.map_map, -wrd, E])) lNil_eq)) (g1_eq hb intD_bl)
      by_cases c : (rightL n (less L i)).length = (rightL n L).length
      · refine ⟨_, E.put 9 true (.lst ((((List.range (i + 1)).filter fun k => decide ((rightL n (less L k)).length = (rightL n L).length))).map fun k => .int (k : Nat))), s, rfl, ?_, rfl, by simp [-List.map_map, -wrd], fun j hj => by simp [-List.map_map, -wrd] at hj; simp [-List.map_map, -wrd, E, hj, gk j (by simp [-List.map_map, -wrd, hj])]⟩
        unfold needB
        rw [sSeq_eq s1]
        have hm' := hm (.lst [.int (i : Nat)]) (by rw [decide_eq_true c]; exact mulL_1)
        have ho : ownL (E 9) = some (((List.range i).filter fun k => decide ((rightL n (less L k)).length = (rightL n L).length)).map fun k => .int (k : Nat)) := by simp [-List.map_map, -wrd, E, g9, ownL]
        unfold sExt withOwn
        rw [ho]
        show bnd _ _ _ = _
        rw [bnd_eq hm']
        have q : ((List.range i).filter fun k => decide ((rightL n (less L k)).length = (rightL n L).length)).length + 1 ≤ line := toLine (by omega)
        rw [List.range_succ, List.filter_append, List.filter_cons_of_pos (by simpa [-List.map_map, -wrd] using c)]
        simp [-List.map_map, -wrd, extL, q]
      · refine ⟨_, E.put 9 true (.lst ((((List.range (i + 1)).filter fun k => decide ((rightL n (less L k)).length = (rightL n L).length))).map fun k => .int (k : Nat))), s, rfl, ?_, rfl, by simp [-List.map_map, -wrd], fun j hj => by simp [-List.map_map, -wrd] at hj; simp [-List.map_map, -wrd, E, hj, gk j (by simp [-List.map_map, -wrd, hj])]⟩
        unfold needB
        rw [sSeq_eq s1]
        have hm' := hm (.lst []) (by rw [decide_eq_false c]; exact mulL_0)
        have ho : ownL (E 9) = some (((List.range i).filter fun k => decide ((rightL n (less L k)).length = (rightL n L).length)).map fun k => .int (k : Nat)) := by simp [-List.map_map, -wrd, E, g9, ownL]
        unfold sExt withOwn
        rw [ho]
        show bnd _ _ _ = _
        rw [bnd_eq hm']
        have q : ((List.range i).filter fun k => decide ((rightL n (less L k)).length = (rightL n L).length)).length ≤ line := toLine (by omega)
        rw [List.range_succ, List.filter_append, List.filter_cons_of_neg (by simpa [-List.map_map, -wrd] using c)]
        simp [-List.map_map, -wrd, extL, q])
  rw [List.length_map, List.length_range] at f2
  exact ⟨e', f1, f2, f3⟩
end Lw88


set_option Elab.async false
set_option linter.all false
set_option maxRecDepth 100000
set_option maxHeartbeats 2000000
namespace Lw88
open PySem PySem.Spec L2 Sm
theorem lost_ok {n : Nat} {e : En} {h : List D} (hn : 1 ≤ n ∧ n ≤ 8) (hh : Hok h) (e0 : e 0 = some (false, .obj 0)) (e2 : e 2 = some (false, .int n)) :
    ∃ (ns : List Int) (h' : List D), eLc [18, 19] (iRng1S (eBin (pur addA) (eC (.int 1)) (eFn F__law_draw (lCons (eVar 0) (lCons (eC (.int 4)) lNil))))) (gNm 19) tYesS (eFn F__law_draw (lCons (eVar 0) (lCons (eVar 2) lNil))) e [h] = .ok (.lst (ns.map .int)) [h'] ∧ Hok h' ∧ (∀ x ∈ ns, 0 ≤ x ∧ x < n) ∧ 1 ≤ ns.length ∧ ns.length ≤ 4 := by
  obtain ⟨r, h1, d1, r0, r1, k1⟩ := law_draw_ok hh (many := 4) (by omega) (by omega)
  obtain ⟨t, rfl⟩ : ∃ t : Nat, r = t := ⟨r.toNat, by omega⟩
  obtain ⟨ys, s', c, ns, h', rfl, rfl, hk, h2, h3⟩ := eLc_run (st := [h]) (st1 := [h1]) (vs := [18, 19]) (it := iRng1S (eBin (pur addA) (eC (.int 1)) (eFn F__law_draw (lCons (eVar 0) (lCons (eC (.int 4)) lNil))))) (g := gNm 19) (t := tYesS) (m := eFn F__law_draw (lCons (eVar 0) (lCons (eVar 2) lNil))) (env := e)
    (I := fun i ys s => ∃ (ns : List Int) (h' : List D), ys = ns.map .int ∧ s = [h'] ∧ Hok h' ∧ (∀ x ∈ ns, 0 ≤ x ∧ x < n) ∧ ns.length = i) ((List.range (t + 1)).map fun i => .int (i : Nat))
    (iRng_eq (n := t + 1) (eBin_eq eC_eq (Eq.trans (fn2 (eVar_eq e0) (eC_eq (d := .int 4))) d1) (by simp [-List.map_map, -wrd]; omega)) (by omega)) (by simp [-List.map_map, -wrd]; omega) ⟨[], h1, rfl, rfl, k1, fun x hx => (by cases hx), rfl⟩ (by
      rintro i d a s hd ⟨ns, h', rfl, rfl, hk, h2, h3⟩
      obtain ⟨r, h4, e, r0, r1, hk2⟩ := law_draw_ok hk (many := (n : Int)) (by omega) (by omega)
      refine ⟨_, true, [h'], rfl, rfl, fun _ => ⟨.int r, [h4], ?_, ns ++ [r], h4, by simp [-List.map_map, -wrd], rfl, hk2, fun x hx => ?_, by simp [-List.map_map, -wrd]; omega⟩, fun z => by cases z⟩
      · rw [fn2 (eVar_eq (d := .obj 0) (by simp [-List.map_map, -wrd, e0])) (eVar_eq (d := .int n) (by simp [-List.map_map, -wrd, e2]))]
        exact e
      · rcases List.mem_append.mp hx with z | z
        · exact h2 x z
        · have : x = r := by simpa [-List.map_map, -wrd] using z
          omega)
  rw [List.length_map, List.length_range] at h3
  exact ⟨ns, h', c, hk, h2, by omega, by omega⟩
/-- a message with lost places -/
def holes (ns : List Int) (m : List Int) : List (Option Int) := m.zipIdx.map fun p => if ns.any (fun y => decide (y = (p.2 : Int))) then none else some p.1
theorem holed_eq {n : Nat} {m ns : List Int} {e : En} {st : Store} (hm : Mok n m) (hn : n ≤ 8) (e12 : e 12 = some (false, tI m)) (e13 : e 13 = some (false, .lst (ns.map .int))) :
    eFn (g1 fun d => lift (tupD d)) (lCons (eLc [18, 19, 5] (iEnumS (eVar 12)) (gTp (gCs (gNm 19) (gCs (gNm 5) gNl))) tYesS (eIf (tV (eBin (pur inD) (eVar 19) (eVar 13))) (eC .non) (eVar 5))) lNil) e st = .ok (hD (holes ns m)) st := by
  refine g1_eq (x := .lst ((holes ns m).map oD)) ?_ (by simp [-List.map_map, -wrd, hD])
  rw [eLc_map (st1 := st) m.zipIdx (fun p => .tup [.int (p.2 : Nat), .int p.1]) (fun p => oD (if ns.any (fun y => decide (y = (p.2 : Int))) then none else some p.1))]
  · simp [-List.map_map, -wrd, holes, List.map_map, Function.comp_def]
  · rw [iEnum_eq (x := tI m) (xs := m.map .int) (eVar_eq e12) rfl]
    simp [-List.map_map, -wrd]
  · refine toLine ?_
    rw [List.length_zipIdx, hm.len]; omega
  · exact fun e => rfl
  · intro p hp
    refine ⟨_, rfl, ?_⟩
    have hin : inD (.int (p.2 : Nat)) (.lst (ns.map .int)) = some (.bl (ns.any fun y => decide (y = (p.2 : Int)))) := by
      show (match shp 60 (D.int (p.2 : Nat)) && shpL 60 (ns.map .int) with | true => some (D.bl ((ns.map D.int).any fun y => D.eqv y (.int (p.2 : Nat)))) | false => none) = _
      rw [shp_int, shpL_ints]
      simp [-List.map_map, -wrd, List.any_map, Function.comp_def]
    rw [eIf_eq (st1 := st) (c := ns.any fun y => decide (y = (p.2 : Int))) (tV_eq (eBin_eq (eVar_eq (d := .int (p.2 : Nat)) (by simp [-List.map_map, -wrd])) (eVar_eq (d := .lst (ns.map .int)) (by simp [-List.map_map, -wrd, e13])) hin))]
    cases ns.any fun y => decide (y = (p.2 : Int)) with
    | true => simp [-List.map_map, -wrd, oD]
    | false => simp [-List.map_map, -wrd, oD]
theorem cnt_one (x : Int) : ∀ (m : List Int) (k : Nat), ((m.zipIdx k).countP fun p => decide (x = (p.2 : Int))) ≤ 1
  | [], k => by simp [-List.map_map, -wrd]
  | a :: m, k => by
    rw [List.zipIdx_cons, List.countP_cons]
    by_cases c : x = (k : Int)
    · have : ((m.zipIdx (k + 1)).countP fun p => decide (x = (p.2 : Int))) = 0 := by
        rw [List.countP_eq_zero]
        intro p hp
        have := List.mem_zipIdx hp
        simp only [decide_eq_true_eq]
        omega
      rw [this]
      split <;> omega
    · have := cnt_one x m (k + 1)
      simp [-List.map_map, -wrd, c]
      omega
theorem cnt_any : ∀ (ns m : List Int) , (m.zipIdx.countP fun p => ns.any fun y => decide (y = (p.2 : Int))) ≤ ns.length
  | [], m => by simp [-List.map_map, -wrd]
  | x :: ns, m => by
    have h1 := cnt_any ns m
    have h2 := cnt_one x m 0
    have h3 : ∀ l : List (Int × Nat), (l.countP fun p => (x :: ns).any fun y => decide (y = (p.2 : Int))) ≤ (l.countP fun p => decide (x = (p.2 : Int))) + (l.countP fun p => ns.any fun y => decide (y = (p.2 : Int))) := fun l => by
      induction l with
      | nil => simp [-List.map_map, -wrd]
      | cons p l ih =>
        simp only [List.countP_cons, List.any_cons, Bool.or_eq_true]
        split <;> split <;> split <;> simp_all <;> omega
    have := h3 m.zipIdx
    rw [List.length_cons]
    omega
theorem holes_ok {n : Nat} {m ns : List Int} (hm : Mok n m) (hr : ∀ x ∈ ns, 0 ≤ x ∧ x < n) (h1 : 1 ≤ ns.length) (h4 : ns.length ≤ 4) : Hk n (holes ns m) := by
  have e : ((holes ns m).countP fun o => o.isNone) = m.zipIdx.countP fun p => ns.any fun y => decide (y = (p.2 : Int)) := by
    unfold holes
    rw [List.countP_map]
    congr 1
    funext p
    simp only [Function.comp]
    cases ns.any fun y => decide (y = (p.2 : Int)) <;> simp [-List.map_map, -wrd]
  refine ⟨by simp [-List.map_map, -wrd, holes, hm.len], fun o ho x hx => ?_, ?_, ?_⟩
  · obtain ⟨p, hp, rfl⟩ := List.mem_map.mp ho
    split at hx
    · cases hx
    · have := List.mem_zipIdx hp
      have e : p.1 = x := by simpa [-List.map_map, -wrd] using hx
      rw [← e]
      refine hm.bit p.1 ?_
      have h2 := this.2.2
      rw [h2]; simp [-List.map_map, -wrd]
  · rw [e]
    obtain ⟨x, hx⟩ : ∃ x, x ∈ ns := by
      cases ns with
      | nil => simp [-List.map_map, -wrd] at h1
      | cons x ns => exact ⟨x, by simp [-List.map_map, -wrd]⟩
    have hx' := hr x hx
    have hk : x.toNat < m.length := by rw [hm.len]; omega
    have : 0 < m.zipIdx.countP fun p => ns.any fun y => decide (y = (p.2 : Int)) := by
      rw [List.countP_pos_iff]
      refine ⟨(m[x.toNat], x.toNat), ?_, ?_⟩
      · rw [List.mem_zipIdx_iff_getElem?]
        simp [-List.map_map, -wrd, hk]
      · rw [List.any_eq_true]
        exact ⟨x, hx, by simp [-List.map_map, -wrd]; omega⟩
    omega
  · rw [e]
    have := cnt_any ns m
    omega
theorem fits_lc {n : Nat} {L : List (List Int)} {hs : List (Option Int)} {e : En} {st : Store} (h : Gok n L) (hh : Hk n hs) (e6 : e 6 = some (false, .lst ((rightL n L).map tI))) (e14 : e 14 = some (false, hD hs)) :
    eLc [18, 5] (iSeq (eVar 6)) (gNm 5) (tV (eFn (g1 fun d => lift (allD d)) (lCons (eLc [18, 20, 21] (iZipS (eVar 14) (eVar 5)) (gTp (gCs (gNm 20) (gCs (gNm 21) gNl))) tYesS (eOr (eBin (pur isOp) (eVar 20) (eC .non)) (eBin (pur eqD) (eVar 20) (eVar 21)))) lNil))) (eVar 5) e st = .ok (.lst (((rightL n L).filter (fits hs)).map tI)) st := by
  have h8 := h.n8
  rw [eLc_pure (st1 := st) (rightL n L) tI (fits hs) tI]
  · exact iSeq_eq (eVar_eq e6) (by simp [-List.map_map, -wrd])
  · exact toLine (Nat.le_trans (rightL_le h.n8) (by decide))
  · intro o ho
    refine ⟨_, rfl, ?_, fun _ => by simp [-List.map_map, -wrd]⟩
    have ol := (rightL_mem ho).len
    refine tV_eq (g1_eq (x := .lst ((hs.zip o).map fun p => .bl (fit1 p))) ?_ (by rw [allD_p]; rfl))
    rw [eLc_map (st1 := st) (hs.zip o) (fun p => .tup [oD p.1, .int p.2]) (fun p => .bl (fit1 p))]
    · rw [iZip_eq (x := hD hs) (y := tI o) (xs := hs.map oD) (ys := o.map .int) (eVar_eq (by simp [-List.map_map, -wrd, e14])) (eVar_eq (by simp [-List.map_map, -wrd])) rfl rfl, zipD_map]
    · refine toLine ?_
      rw [List.length_zip]
      omega
    · exact fun e => rfl
    · intro p hp
      refine ⟨_, rfl, ?_⟩
      cases q : p.1 with
      | none => simp [-List.map_map, -wrd, oD, isOp, isD', fit1, q]
      | some b => simp [-List.map_map, -wrd, oD, isOp, isD', fit1, q]
end Lw88


set_option Elab.async false
set_option linter.all false
set_option maxRecDepth 100000
set_option maxHeartbeats 2000000
namespace Lw88
open PySem PySem.Spec L2 Sm
theorem put_put {e : En} {i : Nat} {a b : Bool} {x y : D} : (e.put i a x).put i b y = e.put i b y := by
  funext j
  simp only [En.put]
  split <;> rfl
theorem apart_rok {n : Nat} {L : List (List Int)} (h : Gok n L) : Rok (apartD n L) := by
  have h8 := h.n8
  unfold apartD
  obtain ⟨xs, hc, hx⟩ := rightL_cons n L
  rw [hc, List.tail_cons]
  cases xs with
  | nil => exact rok_non
  | cons x xs =>
    refine rok_int ?_
    have h1 := (mn_le (xs.map List.sum) x.sum).1
    have hs : ∀ m : List Int, (∀ y ∈ m, y = 0 ∨ y = 1) → 0 ≤ m.sum := fun m hm => by
      induction m with
      | nil => simp [-List.map_map, -wrd]
      | cons a m ih =>
        have h1 := hm a List.mem_cons_self
        have h2 := ih fun y hy => hm y (List.mem_cons_of_mem _ hy)
        simp only [List.sum_cons]
        omega
    have hm := (hx x List.mem_cons_self).1
    have h2 := sum_le hm.bit
    rw [hm.len] at h2
    have h3 := mn_mem (xs.map List.sum) x.sum
    have h4 : 0 ≤ mn x.sum (xs.map List.sum) := by
      rcases List.mem_cons.mp h3 with z | z
      · rw [z]; exact hs x hm.bit
      · obtain ⟨o, ho, e⟩ := List.mem_map.mp z
        rw [← e]; exact hs o (hx o (List.mem_cons_of_mem _ ho)).1.bit
    omega
theorem apart_step {n : Nat} {L : List (List Int)} {e : En} {st : Store} (h : Gok n L) (e6 : e 6 = some (false, .lst ((rightL n L).map tI))) :
    sIf (tV (eBin (pur gtD) (eFn (g1 fun d => lift (lenD d)) (lCons (eVar 6) lNil)) (eC (.int 1)))) (sSet 7 (eFn (g1 fun d => lift (minD' d)) (lCons (eLc [18, 5] (iSeq (eSl slA (eVar 6) (pAt (eC (.int 1))) pNo)) (gNm 5) tYesS (eFn (g1 fun d => lift (sumD d)) (lCons (eVar 5) lNil))) lNil))) sNil (e.put 7 false .non) st = .ok (.nx (e.put 7 false (apartD n L))) st := by
  obtain ⟨xs, hc, hx⟩ := rightL_cons n L
  have hle := rightL_le (L := L) h.n8
  rw [sIf_eq (st1 := st) (c := decide (1 < (rightL n L).length)) (tV_eq (eBin_eq (g1_eq (x := .lst ((rightL n L).map tI)) (y := .int ((rightL n L).length : Nat)) (eVar_eq (by simp [-List.map_map, -wrd, e6])) (by simp [-List.map_map, -wrd])) (eC_eq (d := .int 1)) (by rw [gtD_int]; congr 2; rw [Bool.eq_iff_iff]; simp only [decide_eq_true_eq]; omega)))]
  cases xs with
  | nil =>
    rw [hc] at hle ⊢
    simp [-List.map_map, -wrd, apartD, hc]
  | cons x xs =>
    have c : 1 < (rightL n L).length := by rw [hc]; simp [-List.map_map, -wrd]
    rw [if_pos (decide_eq_true c)]
    have e7 : eLc [18, 5] (iSeq (eSl slA (eVar 6) (pAt (eC (.int 1))) pNo)) (gNm 5) tYesS (eFn (g1 fun d => lift (sumD d)) (lCons (eVar 5) lNil)) (e.put 7 false .non) st = .ok (.lst (((x :: xs).map List.sum).map .int)) st := by
      rw [eLc_map (st1 := st) (x :: xs) tI (fun m => .int m.sum)]
      · simp [-List.map_map, -wrd, List.map_map, Function.comp_def]
      · refine iSeq_eq (x := .lst ((x :: xs).map tI)) ?_ (by simp [-List.map_map, -wrd])
        have : slA (.lst ((rightL n L).map tI)) (some 1) none = some (.lst ((x :: xs).map tI)) := by
          show some (D.lst (cut ((rightL n L).map tI) (some 1) none)) = _
          rw [cut1, hc]; rfl
        simp [-List.map_map, -wrd, eSl, pAt, pNo, e6, this]
      · rw [hc] at hle
        exact toLine (by simp [-List.map_map, -wrd] at hle ⊢; omega)
      · exact fun e => rfl
      · exact fun m hm => ⟨_, rfl, g1_eq (eVar_eq (d := tI m) (by simp [-List.map_map, -wrd])) (by simp [-List.map_map, -wrd])⟩
    have em := minD_ints x.sum (xs.map List.sum)
    rw [sSet_eq (g1_eq e7 (by rw [List.map_cons, em])), put_put]
    simp [-List.map_map, -wrd, apartD, hc]
theorem mend_flag {n : Nat} {L : List (List Int)} {k : Int} {e : En} {st : Store} (h : Gok n L) (hk : 0 ≤ k ∧ k ≤ 8) (e1 : e 1 = some (false, gD n L)) (e2 : e 2 = some (false, .int n)) (e7 : e 7 = some (false, apartD n L)) (e8 : e 8 = some (false, .int k)) :
    eFn F__law_flag (lCons (eFn F_mends (lCons (eVar 1) (lCons (eVar 8) lNil))) (lCons (eOr (eBin (pur isOp) (eVar 7) (eC .non)) (eBin (pur ltD) (eBin (pur mulA) (eFn (g2 fun a b => lift (min2D a b)) (lCons (eVar 8) (lCons (eVar 2) lNil))) (eC (.int 2))) (eVar 7))) lNil)) e st = .ok (.bl true) st := by
  have hn := h.n1
  have e3 : eOr (eBin (pur isOp) (eVar 7) (eC .non)) (eBin (pur ltD) (eBin (pur mulA) (eFn (g2 fun a b => lift (min2D a b)) (lCons (eVar 8) (lCons (eVar 2) lNil))) (eC (.int 2))) (eVar 7)) e st = .ok (.bl (mendsB n L k)) st := by
    rcases apart_cases h with z | ⟨a, z, ha⟩
    · rw [z] at e7
      rw [eOr_t (st1 := st) (by simp [-List.map_map, -wrd, e7, isOp, isD'])]
      simp [-List.map_map, -wrd, mendsB, z]
    · rw [z] at e7
      rw [eOr_f (st1 := st) (by simp [-List.map_map, -wrd, e7, isOp, isD'])]
      have em : min2D (.int k) (.int n) = some (.int (min k n)) := by
        simp [-List.map_map, -wrd, min2D]
        split <;> omega
      have e9 : eFn (g2 fun a b => lift (min2D a b)) (lCons (eVar 8) (lCons (eVar 2) lNil)) e st = .ok (.int (min k n)) st := by
        rw [fn2 (eVar_eq e8) (eVar_eq e2)]
        simp [-List.map_map, -wrd, em]
      refine eBin_eq (eBin_eq e9 (eC_eq (d := .int 2)) (mulA_r (by omega))) (eVar_eq e7) ?_
      rw [ltD_int, mendsB, z]
      congr 2
      rw [Bool.eq_iff_iff]
      simp only [decide_eq_true_eq]
      omega
  rw [fn2 (Eq.trans (fn2 (eVar_eq e1) (eVar_eq e8)) (mends_eq h hk)) e3, flag_eq]
  simp [-List.map_map, -wrd]
end Lw88


set_option Elab.async false
set_option linter.all false
set_option maxRecDepth 100000
set_option maxHeartbeats 2000000
namespace Lw88
open PySem PySem.Spec L2 Sm
theorem law_messages_eq {n : Nat} {st : Store} (h : n ≤ 8) : F__law_messages [.int n] st = .ok (.lst ((rows n).map tI)) st := all_messages_eq h
theorem put_ne {e : En} {i j : Nat} {a : Bool} {x : D} (h : j ≠ i) : (e.put i a x) j = e j := if_neg h
theorem put_eq {e : En} {i : Nat} {a : Bool} {x : D} : (e.put i a x) i = some (a, x) := if_pos rfl
theorem some_rows {xs : List (List Int)} {h : List D} {i : Nat} {e : En} (hh : Hok h) (e0 : e 0 = some (false, .obj 0)) (ei : e i = some (false, .lst (xs.map tI))) (h1 : 1 ≤ xs.length) (h2 : xs.length ≤ 1000) :
    ∃ m h', eFn F__law_some (lCons (eVar 0) (lCons (eVar i) lNil)) e [h] = .ok (tI m) [h'] ∧ m ∈ xs ∧ Hok h' := by
  obtain ⟨x, h', c, hm, hk⟩ := law_some_ok hh (xs := xs.map tI) (by simpa [-List.map_map, -wrd] using h1) (by simpa [-List.map_map, -wrd] using h2)
  obtain ⟨m, hm2, e⟩ := List.mem_map.mp hm
  subst e
  exact ⟨m, h', Eq.trans (fn2 (eVar_eq e0) (eVar_eq ei)) c, hm2, hk⟩
theorem law_right_ok {h0 : List D} (hh : Hok h0) : ∃ h', F__law_right [.obj 0] [h0] = .ok (.bl true) [h'] ∧ Hok h' := by
  obtain ⟨n, L, h1, d1, h, k1⟩ := law_guards_ok hh
  have h8 := h.n8
  have hn1 := h.n1
  have hf := h.few
  have hle := rightL_le (L := L) h8
  have hrl := rows_le h8
  have hr1 : 1 ≤ (rows n).length := by rw [rows_len]; exact Nat.one_le_two_pow
  have hg1 : 1 ≤ (rightL n L).length := by
    obtain ⟨xs, hc, _⟩ := rightL_cons n L
    rw [hc]; simp [-List.map_map, -wrd]
  let E0 : En := env0 [.obj 0]
  let E1 : En := E0.put 1 false (gD n L)
  let E3 : En := (E1.put 2 false (.int n)).put 3 false (.tup (L.map tI))
  let E4 : En := E3.put 4 false (.lst ((rows n).map tI))
  let E6 : En := E4.put 6 false (.lst ((rightL n L).map tI))
  suffices hs : ∃ h', M__law_right E0 [h0] = .ok (.rt (.bl true)) [h'] ∧ Hok h' by
    obtain ⟨h', c, hk⟩ := hs
    exact ⟨h', callS_rt c, hk⟩
  unfold M__law_right
  rw [sSeq_eq (e1 := E1) (st1 := [h1]) (sSet_eq (Eq.trans (fn2 (eVar_eq (d := .obj 0) (by simp [-List.map_map, -wrd, E0])) (eC_eq (d := .int 6))) d1))]
  rw [sSeq_eq (e1 := E3) (st1 := [h1]) (by simp [-List.map_map, -wrd, E1, E3, gD])]
  rw [sSeq_eq (e1 := E4) (st1 := [h1]) (sSet_eq (Eq.trans (fn1 (eVar_eq (d := .int n) (by simp [-List.map_map, -wrd, E3]))) (law_messages_eq h8)))]
  rw [sSeq_eq (e1 := E6) (st1 := [h1]) (sSet_eq (right_lc h (by simp [-List.map_map, -wrd, E4, E3, E1]) (by simp [-List.map_map, -wrd, E4])))]
  have g0 : E6 0 = some (false, .obj 0) := by simp [-List.map_map, -wrd, E6, E4, E3, E1, E0]
  have g1' : E6 1 = some (false, gD n L) := by simp [-List.map_map, -wrd, E6, E4, E3, E1]
  have g2' : E6 2 = some (false, .int n) := by simp [-List.map_map, -wrd, E6, E4, E3]
  have g3 : E6 3 = some (false, .tup (L.map tI)) := by simp [-List.map_map, -wrd, E6, E4, E3]
  have g4 : E6 4 = some (false, .lst ((rows n).map tI)) := by simp [-List.map_map, -wrd, E6, E4]
  have g6 : E6 6 = some (false, .lst ((rightL n L).map tI)) := by simp [-List.map_map, -wrd, E6]
  rw [sSeq_eq (sIf_no (rep_ne (Eq.trans (fn1 (eVar_eq g1')) (right_count_eq h)) (g1_eq (eVar_eq g6) (by simp [-List.map_map, -wrd])) (rok_int (by omega))))]
  obtain ⟨m, h2, d2, hm, k2⟩ := some_rows (i := 4) k1 g0 g4 hr1 (by omega)
  obtain ⟨h3, d3, k3⟩ := told_right_ok h (mem_rows.mp hm) k2
  rw [sSeq_eq (sIf_no (tNot_eq (b := true) (tV_eq (Eq.trans (fn4 (eVar_eq g0) (eVar_eq g1') d2 (eVar_eq g6)) d3))))]
  rw [sSeq_eq (sSet_eq (eC_eq (d := .non))), sSeq_eq (apart_step h g6)]
  generalize E6 = E at g0 g1' g2' g3 g4 g6 ⊢
  rw [sSeq_eq (sIf_no (rep_ne (Eq.trans (fn1 (eVar_eq (by rw [put_ne (by decide)]; exact g1'))) (least_apart_eq h)) (eVar_eq put_eq) (apart_rok h)))]
  obtain ⟨k, h4, d4, q0, q1, k4⟩ := law_draw_ok k3 (many := 9) (by omega) (by omega)
  let E8 : En := (E.put 7 false (apartD n L)).put 8 false (.int k)
  rw [sSeq_eq (e1 := E8) (st1 := [h4]) (sSet_eq (Eq.trans (fn2 (eVar_eq (d := .obj 0) (by simp [-List.map_map, -wrd, g0])) (eC_eq (d := .int 9))) d4))]
  rw [sSeq_eq (sIf_no (tNot_eq (b := true) (tV_eq (mend_flag (k := k) h (by omega) (by simp [-List.map_map, -wrd, E8, g1']) (by simp [-List.map_map, -wrd, E8, g2']) (by simp [-List.map_map, -wrd, E8]) (by simp [-List.map_map, -wrd, E8])))))]
  rw [sSeq_eq (sOwn_eq (d := .lst []) (st1 := [h4]) (by simp [-List.map_map, -wrd]))]
  obtain ⟨F, f1, f2, f3⟩ := need_loop (st := [h4]) (e := E8.put 9 true (.lst [])) h (by simp [-List.map_map, -wrd, E8, g2']) (by simp [-List.map_map, -wrd, E8, g3]) (by simp [-List.map_map, -wrd, E8, g4]) (by simp [-List.map_map, -wrd, E8, g6]) (by simp [-List.map_map, -wrd])
  unfold needB at f1
  rw [sSeq_eq f1]
  have kp : ∀ i, i ∉ [9, 10, 11, 7, 8] → F i = E i := fun i hi => by
    simp only [List.mem_cons, List.not_mem_nil, or_false, not_or] at hi
    rw [f3 i (by simp [-List.map_map, -wrd, hi])]
    simp [-List.map_map, -wrd, E8, hi]
  have p0 : F 0 = some (false, .obj 0) := by rw [kp 0 (by simp [-List.map_map, -wrd])]; exact g0
  have p1 : F 1 = some (false, gD n L) := by rw [kp 1 (by simp [-List.map_map, -wrd])]; exact g1'
  have p2 : F 2 = some (false, .int n) := by rw [kp 2 (by simp [-List.map_map, -wrd])]; exact g2'
  have p4 : F 4 = some (false, .lst ((rows n).map tI)) := by rw [kp 4 (by simp [-List.map_map, -wrd])]; exact g4
  have p6 : F 6 = some (false, .lst ((rightL n L).map tI)) := by rw [kp 6 (by simp [-List.map_map, -wrd])]; exact g6
  have nle : (needL n L).length ≤ 5 := by
    have := List.length_filter_le (fun k => decide ((rightL n (less L k)).length = (rightL n L).length)) (List.range L.length)
    rw [List.length_range] at this
    unfold needL; omega
  have nrk : Rok (.tup ((needL n L).map fun k => .int (k : Nat))) := by
    refine rk_tup (fun x hx => ?_) (by simp [-List.map_map, -wrd]; omega)
    obtain ⟨j, hj, rfl⟩ := List.mem_map.mp hx
    have := List.mem_range.mp (List.mem_filter.mp hj).1
    exact rk_int (by omega)
  rw [sSeq_eq (sIf_no (rep_ne (Eq.trans (fn1 (eVar_eq p1)) (needless_eq h)) (g1_eq (x := .lst ((needL n L).map fun k => .int (k : Nat))) (by simp [-List.map_map, -wrd, eVarB, f2]) (by simp [-List.map_map, -wrd])) nrk))]
  obtain ⟨mm, h5, d5, hmm, k5⟩ := some_rows (i := 4) k4 p0 p4 hr1 (by omega)
  obtain ⟨ns, h6, d6, k6, r1, r2, r3⟩ := lost_ok (n := n) ⟨hn1, h8⟩ k5 p0 p2
  have hmm' := mem_rows.mp hmm
  let F1 : En := (F.put 12 false (tI mm)).put 13 false (.lst (ns.map .int))
  rw [sSeq_eq (e1 := F1) (st1 := [h6]) (by
    unfold sAsg
    rw [bnd_eq (eTup_eq (lCons_eq d5 (lCons_eq d6 lNil_eq)))]
    rfl)]
  have hk := holes_ok hmm' r1 r2 r3
  let F2 : En := F1.put 14 false (hD (holes ns mm))
  rw [sSeq_eq (e1 := F2) (st1 := [h6]) (sSet_eq (holed_eq hmm' h8 (by simp [-List.map_map, -wrd, F1]) (by simp [-List.map_map, -wrd, F1])))]
  let F3 : En := F2.put 15 false (.lst (((rightL n L).filter (fits (holes ns mm))).map tI))
  rw [sSeq_eq (e1 := F3) (st1 := [h6]) (sSet_eq (fits_lc h hk (by simp [-List.map_map, -wrd, F2, F1, p6]) (by simp [-List.map_map, -wrd, F2])))]
  have frk : Rok (.tup (((rightL n L).filter (fits (holes ns mm))).map tI)) := by
    have hl : ((rightL n L).filter (fits (holes ns mm))).length ≤ 256 := Nat.le_trans (List.length_filter_le _ _) hle
    have hr : ∀ x ∈ ((rightL n L).filter (fits (holes ns mm))).map tI, Rk x := fun x hx => by
      obtain ⟨o, ho, rfl⟩ := List.mem_map.mp hx
      obtain ⟨a, b⟩ := mok_small (rightL_mem (List.mem_filter.mp ho).1) h8
      exact rk_tI a b
    have hw : ∀ x ∈ ((rightL n L).filter (fits (holes ns mm))).map tI, wt x ≤ 200 := fun x hx => by
      obtain ⟨o, ho, rfl⟩ := List.mem_map.mp hx
      have := (rightL_mem (List.mem_filter.mp ho).1).len
      simp only [tI, wt, wtL_ints]
      omega
    have hl' : (((rightL n L).filter (fits (holes ns mm))).map tI).length ≤ 256 := by rw [List.length_map]; exact hl
    refine ⟨by rw [wrd_tup, List.all_eq_true]; exact fun x hx => (hr x hx).w, ?_, by simp only [smI, smIL_all, List.all_eq_true]; exact fun x hx => (hr x hx).s, ?_⟩
    · rw [dat_tup60, List.all_eq_true]
      exact fun x hx => dat_le (hr x hx).t (by omega)
    · have := wtL_le (B := 200) _ hw
      simp only [wt]
      refine toLine ?_
      have h2 : (200 + 2) * (((rightL n L).filter (fits (holes ns mm))).map tI).length ≤ (200 + 2) * 256 := Nat.mul_le_mul_left _ hl'
      omega
  rw [sSeq_eq (sIf_no (rep_ne (Eq.trans (fn2 (eVar_eq (d := gD n L) (by simp [-List.map_map, -wrd, F3, F2, F1, p1])) (eVar_eq (d := hD (holes ns mm)) (by simp [-List.map_map, -wrd, F3, F2]))) (filled_eq h hk)) (g1_eq (eVar_eq (d := .lst (((rightL n L).filter (fits (holes ns mm))).map tI)) (by simp [-List.map_map, -wrd, F3])) (by simp [-List.map_map, -wrd])) frk))]
  have q6 : F3 6 = some (false, .lst ((rightL n L).map tI)) := by simp [-List.map_map, -wrd, F3, F2, F1, p6]
  have q0' : F3 0 = some (false, .obj 0) := by simp [-List.map_map, -wrd, F3, F2, F1, p0]
  have q1' : F3 1 = some (false, gD n L) := by simp [-List.map_map, -wrd, F3, F2, F1, p1]
  obtain ⟨a, h7, d7, ha, k7⟩ := some_rows (i := 6) k6 q0' q6 hg1 (by omega)
  obtain ⟨b, h9, d9, hb, k9⟩ := some_rows (i := 6) k7 q0' q6 hg1 (by omega)
  have ma := rightL_mem ha
  have mb := rightL_mem hb
  let F4 : En := (F3.put 5 false (tI a)).put 16 false (tI b)
  rw [sSeq_eq (e1 := F4) (st1 := [h9]) (by
    unfold sPar
    rw [bnd_eq (lCons_eq d7 (lCons_eq d9 lNil_eq))]
    rfl)]
  have ms := sumL_ok ma mb
  have hs := summed_eq (st := [h9]) ⟨hn1, h8⟩ ma mb
  have both : eFn (g1 fun d => lift (tupD d)) (lCons (eLc [18, 20, 21] (iZipS (eVar 5) (eVar 16)) (gTp (gCs (gNm 20) (gCs (gNm 21) gNl))) tYesS (eBin (pur modD) (eFn (g1 fun d => lift (intD d)) (lCons (eBin (pur addA) (eVar 20) (eVar 21)) lNil)) (eC (.int 2)))) lNil) F4 [h9] = .ok (tI (sumL a b)) [h9] := by
    refine g1_eq (x := .lst ((sumL a b).map .int)) ?_ (by simp [-List.map_map, -wrd, tI])
    rw [eLc_map (st1 := [h9]) (a.zip b) (fun p => .tup [.int p.1, .int p.2]) (fun p => .int ((p.1 + p.2) % 2))]
    · simp [-List.map_map, -wrd, sumL, List.map_map, Function.comp_def]
    · rw [iZip_eq (x := tI a) (y := tI b) (xs := a.map .int) (ys := b.map .int) (eVar_eq (by simp [-List.map_map, -wrd, F4])) (eVar_eq (by simp [-List.map_map, -wrd, F4])) rfl rfl, zipD_map]
    · refine toLine ?_
      rw [List.length_zip, ma.len]
      omega
    · exact fun e => rfl
    · exact fun p hp => ⟨_, rfl, by simp [-List.map_map, -wrd, modD_int]⟩
  rw [sSeq_eq (sSet_eq both)]
  refine ⟨h9, ?_, k9⟩
  refine sRet_eq ?_
  have w5 : (F4.put 17 false (tI (sumL a b))) 5 = some (false, tI a) := by simp [-List.map_map, -wrd, F4]
  have w16 : (F4.put 17 false (tI (sumL a b))) 16 = some (false, tI b) := by simp [-List.map_map, -wrd, F4]
  have w1 : (F4.put 17 false (tI (sumL a b))) 1 = some (false, gD n L) := by simp [-List.map_map, -wrd, F4, q1']
  have ra : Rok (tI (sumL a b)) := by
    obtain ⟨x, y⟩ := mok_small ms h8
    exact rok_tI x (by omega)
  have hsum := Eq.trans (fn2 (F := F_summed) (eVar_eq (st := [h9]) w5) (eVar_eq w16)) hs
  have c1 := eBin_eq (g := eqD) (g1_eq hsum (rep_ok ra)) (g1_eq (eVar_eq (put_eq (e := F4) (i := 17) (a := false) (x := tI (sumL a b)))) (rep_ok ra)) (z := .bl true) (by simp [-List.map_map, -wrd])
  rw [eAnd_t c1]
  have gd := sum_good h ma mb (List.mem_filter.mp ha).2 (List.mem_filter.mp hb).2
  have ef : firstD L (sumL a b) = .tup [.str "right"] := by
    have : (oddL L (sumL a b)).length = 0 := by simpa [-List.map_map, -wrd, good] using gd
    simp [-List.map_map, -wrd, firstD, this]
  refine eBin_eq (Eq.trans (fn2 (eVar_eq w1) hsum) (right_or_odd_eq h ms)) (eTup_eq (lCons_eq eC_eq lNil_eq)) ?_
  rw [ef]
  simp [-List.map_map, -wrd, eqD, D.eqv, D.py, pyL, PyData.eqv, PyData.eqvAll]
end Lw88


set_option Elab.async false
set_option linter.all false
set_option maxRecDepth 100000
set_option maxHeartbeats 2000000
namespace Lw88
open PySem PySem.Spec L2 Sm
theorem ne_self {a b : Ex} {env : En} {st : Store} {x : D} (ha : a env st = .ok x st) (hb : b env st = .ok x st) (h : shp 60 x = true) : tV (eBin (pur neD) a b) env st = .ok false st := by
  refine tV_eq (eBin_eq ha hb ?_)
  unfold neD
  rw [h]
  show some (D.bl (!D.eqv x x)) = _
  rw [show D.eqv x x = true from eqv_self 60 x h]
  rfl
theorem law_hand_ok {ns : List Int} (hl : ns.length ≤ 63) {st : Store} : ∃ cs s, F__law_hand [scrD ns] st = .ok (.lst (hnd cs 0 0 s 0)) st ∧ Hok (hnd cs 0 0 s 0) := by
  let cs : List Int := ns.map fun i => if i < 0 then -i else i
  refine ⟨cs, 2161 + 197 * (cs.length : Nat), ?_, ⟨cs, 0, 0, _, 0, rfl, fun x hx => ?_, by omega, by omega, by omega, by omega, by simpa [-List.map_map, -wrd, cs] using hl⟩⟩
  · refine callS_frt ?_
    unfold M__law_hand
    rw [sSeq_eq (e1 := (env0 [scrD ns]).put 1 false (.lst (cs.map .int))) (st1 := st) (sSet_eq (by
      rw [eLc_map (st1 := st) ns .int (fun i => .int (if i < 0 then -i else i))]
      · simp [-List.map_map, -wrd, cs, List.map_map, Function.comp_def]
      · refine iSeq_eq (x := .lst (ns.map .int)) ?_ (by simp [-List.map_map, -wrd])
        have : slA (scrD ns) none (some 63) = some (.lst (ns.map .int)) := by
          show some (D.lst (cut (ns.map .int) none (some ((63 : Nat) : Int)))) = _
          rw [cut_to, List.take_of_length_le (by simpa [-List.map_map, -wrd] using hl)]
        simp [-List.map_map, -wrd, eSl, pAt, pNo, this]
      · exact toLine (by omega)
      · exact fun e => rfl
      · exact fun i hi => ⟨_, rfl, g1_eq (g1_eq (eVar_eq (d := .int i) (by simp [-List.map_map, -wrd])) intD_int) absD_int⟩))]
    refine sRet_eq ?_
    simp [-List.map_map, -wrd, mulA_l, hnd]
  · obtain ⟨i, _, rfl⟩ := List.mem_map.mp hx
    show 0 ≤ if i < 0 then -i else i
    split <;> omega
theorem gok3 : Gok 3 [[0, 1], [1, 2]] := ⟨by decide, by decide, by decide, by decide, by decide, by decide⟩
theorem gok2 : Gok 2 [[0, 1]] := ⟨by decide, by decide, by decide, by decide, by decide, by decide⟩
theorem gok1 : Gok 1 [[0]] := ⟨by decide, by decide, by decide, by decide, by decide, by decide⟩
theorem mok3 : Mok 3 [0, 1, 0] := ⟨rfl, by decide⟩
theorem mok2 : Mok 2 [0, 1] := ⟨rfl, by decide⟩
theorem hk2 : Hk 2 [none, some 1] := ⟨rfl, by simp [-List.map_map, -wrd], by decide, by decide⟩
theorem all_rights {e : En} {h0 : List D} (hh : Hok h0) (e1 : e 1 = some (false, .obj 0)) : ∃ h', eFn (g1 fun d => lift (allD d)) (lCons (eLc [3, 4] (iRng1S (eC (.int 4))) (gNm 4) tYesS (eFn F__law_right (lCons (eVar 1) lNil))) lNil) e [h0] = .ok (.bl true) [h'] := by
  obtain ⟨ys, s', c, h', rfl, hk, hy⟩ := eLc_run (st := [h0]) (st1 := [h0]) (vs := [3, 4]) (it := iRng1S (eC (.int 4))) (g := gNm 4) (t := tYesS) (m := eFn F__law_right (lCons (eVar 1) lNil)) (env := e)
    (I := fun i ys s => ∃ h', s = [h'] ∧ Hok h' ∧ ys = (List.range i).map fun _ => .bl true) ((List.range 4).map fun i => .int (i : Nat))
    (iRng_eq (n := 4) eC_eq (by omega)) (by simp [-List.map_map, -wrd]) ⟨h0, rfl, hh, rfl⟩ (by
      rintro i d a s hd ⟨h', rfl, hk, rfl⟩
      obtain ⟨h2, c, k2⟩ := law_right_ok hk
      exact ⟨_, true, [h'], rfl, rfl, fun _ => ⟨.bl true, [h2], Eq.trans (fn1 (eVar_eq (d := .obj 0) (by simp [-List.map_map, -wrd, e1]))) c, h2, rfl, k2, by rw [List.range_succ, List.map_append]; rfl⟩, fun z => by cases z⟩)
  refine ⟨h', g1_eq c ?_⟩
  rw [hy, allD_p _ (fun _ => true)]
  simp [-List.map_map, -wrd]
theorem plain : ∀ ns : List Int, ns.length ≤ 63 → ∃ st', F_law [scrD ns] [] = .ok (.bl true) st' := by
  intro ns hl
  obtain ⟨cs, s, d1, hk⟩ := law_hand_ok (st := []) hl
  generalize hnd cs 0 0 s 0 = h0 at d1 hk
  obtain ⟨h', dl⟩ := all_rights (e := ((env0 [scrD ns]).put 1 true (.lst h0)).put 1 false (.obj 0) |>.put 2 false (gD 3 [[0, 1], [1, 2]])) hk (by simp [-List.map_map, -wrd])
  refine ⟨[h'], callS_rt ?_⟩
  unfold M_law
  rw [sSeq_eq (sOwn_eq (Eq.trans (fn1 (eVar_eq (d := scrD ns) (by simp [-List.map_map, -wrd]))) d1))]
  show sSeq _ _ (((env0 [scrD ns]).put 1 true (.lst h0)).put 1 false (.obj 0)) [h0] = _
  rw [sSeq_eq (e1 := ((env0 [scrD ns]).put 1 true (.lst h0)).put 1 false (.obj 0) |>.put 2 false (gD 3 [[0, 1], [1, 2]])) (st1 := [h0]) (by simp [-List.map_map, -wrd, gD, tI])]
  generalize hE : (((env0 [scrD ns]).put 1 true (.lst h0)).put 1 false (.obj 0) |>.put 2 false (gD 3 [[0, 1], [1, 2]])) = E at dl ⊢
  have e2 : E 2 = some (false, gD 3 [[0, 1], [1, 2]]) := by rw [← hE]; simp [-List.map_map, -wrd]
  have t3 : eTup (lCons (eC (.int 0)) (lCons (eC (.int 1)) (lCons (eC (.int 0)) lNil))) E [h0] = .ok (tI [0, 1, 0]) [h0] := rfl
  have t2 : eTup (lCons (eC (.int 0)) (lCons (eC (.int 1)) lNil)) E [h0] = .ok (tI [0, 1]) [h0] := rfl
  have gg2 : eTup (lCons (eC (.int 2)) (lCons (eTup (lCons (eTup (lCons (eC (.int 0)) (lCons (eC (.int 1)) lNil))) lNil)) lNil)) E [h0] = .ok (gD 2 [[0, 1]]) [h0] := rfl
  have gg1 : eTup (lCons (eC (.int 1)) (lCons (eTup (lCons (eTup (lCons (eC (.int 0)) lNil)) lNil)) lNil)) E [h0] = .ok (gD 1 [[0]]) [h0] := rfl
  have th : eTup (lCons (eC .non) (lCons (eC (.int 1)) lNil)) E [h0] = .ok (hD [none, some 1]) [h0] := rfl
  rw [sSeq_eq (sIf_no (ne_self (x := firstD [[0, 1], [1, 2]] [0, 1, 0]) (Eq.trans (fn2 (eVar_eq e2) t3) (right_or_odd_eq gok3 mok3)) rfl rfl))]
  rw [sSeq_eq (sIf_no (Eq.trans (tOr_no (ne_self (x := toldD 3 [[0, 1], [1, 2]] [0, 1, 0]) (Eq.trans (fn2 (eVar_eq e2) t3) (mended_or_doubt_eq gok3 mok3)) rfl rfl)) (tV_eq (eBin_eq (z := .bl false) (Eq.trans (fn2 (eVar_eq e2) eC_eq) (mends_eq (k := 1) gok3 (by omega))) eC_eq rfl))))]
  rw [sSeq_eq (sIf_no (ne_self (x := apartD 3 [[0, 1], [1, 2]]) (Eq.trans (fn1 (eVar_eq e2)) (least_apart_eq gok3)) rfl rfl))]
  rw [sSeq_eq (sIf_no (Eq.trans (tOr_no (ne_self (x := toldD 2 [[0, 1]] [0, 1]) (Eq.trans (fn2 gg2 t2) (mended_or_doubt_eq gok2 mok2)) rfl rfl)) (ne_self (Eq.trans (fn2 gg2 th) (filled_eq gok2 hk2)) rfl rfl)))]
  rw [sSeq_eq (sIf_no (tV_eq (eBin_eq (z := .bl false) (Eq.trans (fn1 gg1) (least_apart_eq gok1)) eC_eq rfl)))]
  exact sRet_eq dl
end Lw88


set_option Elab.async false
set_option linter.all false
set_option maxRecDepth 100000
set_option maxHeartbeats 0
namespace Lw88
open PySem PySem.Spec PyProof.Rows L2 Sm
abbrev R : PySem.W.OpenRow := PySem.W.OpenLaw.row PySem.Challenge.rw_fewclues_k88_whole_messages_guarded_and
abbrev hk : PySem.W.Hook := hookS 4 fa fn
def ob (s : PySem.W.SharedT) : He.AlD := obsSG 4 fa fn (HandSHeadRun.getT s)
theorem ob_eq (s : PySem.W.SharedT) : ob s = hk.obs s.abs := obsSG_eq (HandSHeadRun.getT_eq s)
def loose : List Str := (["is_integer", "is_within", "is_number", "is_tuple", "is_lot", "ClueError", "NoNumber", "Unlike", "NoGuards", "NoMessage", "NoLost", "MOST", "MOST_LOTS", "MOST_LOST", "check_guards", "is_message", "check_message", "odd_of", "right_or_odd", "is_right_or_odd"] : List Str) ++ (["all_messages", "right_ones", "off_by", "told", "mended_or_doubt", "is_mended_or_doubt", "right_count", "apart", "least_apart", "mends", "filled", "needless_lots", "summed", "_law_hand", "_law_draw", "_law_some", "_law_messages", "_law_guards", "_law_odd", "_law_off"] : List Str) ++ (["_law_deep", "_law_flag", "_law_told_right", "_law_right"] : List Str)
theorem run (w : World) : HandSHeadRun.RunEq R (PySem.W.view R.prog [48]) hk ob 3000 loose w := by
  intro os
  kernel_rfl
end Lw88


open PySem PySem.W PySem.Calls PyProof.Rows
theorem PySem.Challenge.cw_fewclues_k88_whole_messages_guarded_and_holds : PySem.Challenge.rw_fewclues_k88_whole_messages_guarded_and.Holds := by
  w_on; o_law
  refine HandSHeadRun.head_any (r := OpenLaw.row PySem.Challenge.rw_fewclues_k88_whole_messages_guarded_and) (q := view (OpenLaw.row PySem.Challenge.rw_fewclues_k88_whole_messages_guarded_and).prog [48]) (H := Lw88.hk) (ob := Lw88.ob) (M := 3000) (loose := Lw88.loose) (d := HandSHeadRun.topDef (OpenLaw.row PySem.Challenge.rw_fewclues_k88_whole_messages_guarded_and).prog 48) (kwd := []) Lw88.ob_eq
    (by kernel_rfl) (fun s => by kernel_rfl) Lw88.run (by kernel_rfl) (by kernel_rfl) (by kernel_rfl) (by rfl) (by first | assumption | decide +kernel) (by decide +kernel) ⟨rfl, rfl, rfl, rfl, rfl, by decide +kernel⟩ ?hw ?hc
  case hw => w_witness2
  case hc =>
    refine Sm.walk_ofP (l := PySem.Challenge.rw_fewclues_k88_whole_messages_guarded_and) (n := 63) (k := 9) (x := "script") (nm := "law") (Fl := Lw88.F_law) rfl (by decide) (by kernel_rfl) ⟨rfl, by decide, by decide⟩ (by kernel_rfl) ?F Lw88.plain
    intro w mg h Y G
    obtain ⟨K, KX, c⟩ := Y
    exact ⟨K, KX, fun base => Lw88.p_law (Sm.Says.of KX G c)⟩

